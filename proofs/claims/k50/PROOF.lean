import PyProof.Rows.All
import Wide.All
import OpenK.AllK
import Wide.FinOn
import HandS.ForMost
import HandS.IsInst
import HandS.Conv
import HandS.Style
import HandS.Wide
import HandS.Walk
import HandS.Zip
import HandS.Deep
import HandS.TupMul
import HandS.RaiseMore
import HandS.TupAny
import HandS.ExcInit
import HandS.Exc
import HandS.ExcOwn
import HandS.ExcIs
import HandS.WordsExc
import HandS.ExcField
import KE.KExcIs
import HandS.Codes
import PySem.Challenge.RW_leapwork_k50_whole_there_and_back
set_option Elab.async false
set_option linter.all false
set_option maxRecDepth 100000
set_option maxHeartbeats 4000000
namespace LW
open PySem PySem.Spec PyProof.Rows L2 RZ
/-! ### promises that are asked only where no repr is under way (A.guards = some []) -/
structure FnG (P : Program) (w : World) (K : PySem.W.Frag) (mg : Str → Option Value) (base : Heap) (k : Nat) (f : Addr) (fd : FuncData) (ps : List Str) (sp : Sp) : Prop where
  len : ∀ vs H Q E, sp vs H Q E → vs.length = ps.length
  run : ∀ (A : Around) (fs : List Env) (s : Shared) (H : Hp) (ar : Args) (us : List Value) (vs : List V) (Q : VK) (E : XK), Room k A → A.guards = some [] → Env0 P w K mg base A fs s H → BindsTo s fd ar (ps.zip us) → Vals vs us → sp vs H Q E →
    codeAny (model P w) A (.call (.ref f) ar) (CR CX0 fs P w H s Q E) s
section
variable {P : Program} {w : World} {K : PySem.W.Frag} {mg : Str → Option Value} {base : Heap}
theorem FnG.mono {j k : Nat} {f : Addr} {fd : FuncData} {ps : List Str} {sp : Sp} (F : FnG P w K mg base j f fd ps sp) (h : j ≤ k) : FnG P w K mg base k f fd ps sp :=
  ⟨F.len, fun A fs s H ar us vs Q E hr => F.run A fs s H ar us vs Q E (hr.mono h)⟩
theorem FnG.imp {k : Nat} {f : Addr} {fd : FuncData} {ps : List Str} {sp sp' : Sp} (F : FnG P w K mg base k f fd ps sp) (h : ∀ vs H Q E, sp' vs H Q E → sp vs H Q E) : FnG P w K mg base k f fd ps sp' :=
  ⟨fun vs H Q E q => F.len vs H Q E (h _ _ _ _ q), fun A fs s H ar us vs Q E hr hg he hb hv q => F.run A fs s H ar us vs Q E hr hg he hb hv (h _ _ _ _ q)⟩
theorem FnOk.g {k : Nat} {f : Addr} {fd : FuncData} {ps : List Str} {sp : Sp} (F : FnOk P w K mg base CX0 k f fd ps sp) : FnG P w K mg base k f fd ps sp :=
  ⟨F.len, fun A fs s H ar us vs Q E hr _ => F.run A fs s H ar us vs Q E hr⟩
/-- a def by its body -/
theorem Fun.okG {x q : Str} {st : Stmt} {f : Addr} {fd : FuncData} {N ps : List Str} {k : Nat} {sp : Sp} (F : Fun K x q st f fd) (S : FnScope N ps (defScope st)) (len : ∀ vs H Q E, sp vs H Q E → vs.length = ps.length)
    (hbody : ∀ (cdv : Value) (A : Around) (fs : List Env) (s : Shared) (H : Hp) (vs : List V) (Q : VK) (E : XK), Room k (A.deeper (envOfC q (defScope st) s.heap.objs.size f cdv)) → A.guards = some [] → sp vs H Q E →
      ∃ t, PSs (cxOf CX0 P w K mg base N q (defScope st) f cdv A fs s H E).nox (defBody st) t ∧ t { nx := fun _ H' => Q .non H', rt := Q } (start N vs) H) : FnG P w K mg base (k + 1) f fd ps sp := by
  obtain ⟨oc, od, kV, doc, pm, an, cdv, ct, osl, rfl, lk, hcd⟩ := F.ex
  refine ⟨len, fun A fs s H ar us vs Q E hr hg e0 hb rv hsp => ?_⟩
  have kin : K.In s.heap := e0.mod.kin.keeps fun b o z => (e0.bs b o z).1
  have nl : s.heap.NoLimit := e0.mod.nolimit.keeps fun b o z => (e0.bs b o z).1
  have loc : ∀ y ∈ ps.zip us, (defScope st).names.lookup y.1 = some .local ∨ ((defScope st).names.lookup y.1 = some .cell ∧ ((cellsFrom (s.heap.objs.size + 1) (defScope st).names []).lookup y.1).isSome = true) := by
    rintro ⟨n, v⟩ hy
    exact (S.par n (List.of_mem_zip hy).1).imp_right fun z => ⟨z, PySem.W.cellsFrom_some _ _ _ (.inl z)⟩
  refine codeAny_call_function hr.depth (kin _ _ lk) rfl S.co S.gen rfl (PySem.W.codeRec_of kin hcd) (hb _ _ _ _ (wpAny_newFunctionEnv_cells S.kind loc fun env he s1 x => ?_))
  subst he
  refine ⟨nl.keeps x.toInCall.keep, codeAny_func ?_⟩
  obtain ⟨t, ht, hq⟩ := hbody cdv A fs s H vs Q E (hr.deeper _) hg hsp
  have J0 := inv_start (CX := CX0) (E := E) S hr.hd e0 (len _ _ _ _ hsp) rv x
  refine wpAny_mono (ht.nox.run [] s1 (start N vs) H _ J0 hq) (fun fl s' hs => ?_) (fun _ _ z => z)
  cases fl with
  | ret u =>
    obtain ⟨v, σ', H', J, r', q'⟩ := hs
    exact ⟨v, H', J.os, J.bare, J.base, J.hok, r', q'⟩
  | next =>
    obtain ⟨σ', H', J, q'⟩ := hs
    exact ⟨V.non, H', J.os, J.bare, J.base, J.hok, rfl, q'⟩
  | brk => exact (hs.elim fun _ z => z.elim fun _ z => z.2.elim)
  | cont => exact (hs.elim fun _ z => z.elim fun _ z => z.2.elim)
end
section
variable {X : Cx} {k : Nat} {f : Addr} {fd : FuncData} {ps : List Str} {sp : Sp}
theorem runG {pins : List (Addr × Obj)} {σ : L2.St} {H : Hp} {s : Shared} {Q : VK} {us : List Value} {vs : List V} (F : FnG X.prog X.w X.K X.mg X.base k f fd ps sp) (hr : Room k X.A) (hg : X.A.guards = some []) (hb : Binds X.K fd ps [])
    (I : Inv X pins σ H s) (rv : Vals vs us) (h : sp vs H Q E0) : wpAny (model X.prog X.w) X.A (call (.ref f) us) (EP X pins σ Q) X.xe s := by
  have hl : (us ++ []).length = ps.length := by rw [List.append_nil, ← rv.length]; exact F.len _ _ _ _ h
  have b := hb s us I.kIn hl
  rw [List.append_nil] at b
  refine wpAny_call (codeAny_mono (F.run X.A X.stack s H ⟨us, []⟩ us vs Q E0 hr hg I.env0 b rv h) fun r s' z => ?_)
  match r, z with
  | .ok (.ret u), z => exact I.after z
  | .ok .next, z => exact False.elim z
  | .ok .brk, z => exact False.elim z
  | .ok .cont, z => exact False.elim z
  | .error e, z => exact False.elim z
end
section
variable {X : Cx} {k : Nat} {f : Addr} {fd : FuncData} {ps : List Str} {sp : Sp} {x : Str} {e : Expr} {es : List Expr} {t : TA} {p pos : Pos}
theorem pe_callG (F : FnG X.prog X.w X.K X.mg X.base k f fd ps sp) (hr : Room k X.A) (hg : X.A.guards = some []) (gl : Gl X x) (hm : X.mg x = some (.ref f)) (hk : PySem.W.keepIn X.K (.ref f) = true) (hb : Binds X.K fd ps [])
    (ha : PA X (e :: es) t) (hdb : (x == ("__debug__" : Str)) = false := by decide) (he : starEach (e :: es) X.env = (false, eval e X.env) :: starEach es X.env := by rfl) (hpl : (backTo pos (starEach es X.env)).any (·.1) = false := by rfl) :
    PE X (.Call (.Name x p) (e :: es) [] pos) (tCall sp [] E0 t) :=
  ⟨fun pins s σ H Q I h => wpAny_Call_Name_kw (ld_glob I gl hm (PySem.W.callWith_K (h₀ := X.base) I.ok.mod.kin hk (thn (ha.run pos pins s σ H _ I h) fun us s1 ⟨vs, H1, I1, r, q⟩ => ⟨I1.kIn, runG F hr hg hb I1 r (by have q' : sp (vs ++ []) H1 Q E0 := q; rwa [List.append_nil] at q')⟩) he hpl) hdb)⟩
theorem pe_callG0 (F : FnG X.prog X.w X.K X.mg X.base k f fd ps sp) (hr : Room k X.A) (hg : X.A.guards = some []) (gl : Gl X x) (hm : X.mg x = some (.ref f)) (hk : PySem.W.keepIn X.K (.ref f) = true) (hb : Binds X.K fd ps [])
    (hdb : (x == ("__debug__" : Str)) = false := by decide) : PE X (.Call (.Name x p) [] [] pos) (tCall sp [] E0 tNil) :=
  ⟨fun pins s σ H Q I h => wpAny_Call_Name_kw (ld_glob I gl hm (PySem.W.callWith_K0 I.kIn hk (runG (us := []) (vs := []) F hr hg hb I .nil h)) hdb)⟩
end
/-! ### the law's call -/
theorem lawG {P : Program} {w : World} {K : PySem.W.Frag} {mg mb : Str → Option Value} {k : Nat} {fa a : Addr} {fd : FuncData} {x : Str} {sp : Sp} {s1 : Shared} {vs : List Value} {ns : List Int}
    (KX : K.In s1.heap) (g1 : s1.heap.Ns mainGlobals mg) (g2 : s1.heap.Ns builtinsNs mb) (g3 : ∀ x : Str, x ≠ "__name__" → mb x = bootBuiltins x) (g4 : s1.heap.NoLimit) (g5 : s1.gens = #[])
    (ha : s1.heap.get? a = some { cls := .type "list", data := .seq vs.toArray }) (hi : IntsAre vs ns) (hl : ns.length ≤ sizeLine) (hr : Room k callerA)
    (F : ∀ base : Heap, K.In base → base.Ns mainGlobals mg → FnG P w K mg base k fa fd [x] sp) (bi : ∀ (s : Shared) (u : Value), BindsTo s fd ⟨[u], []⟩ [(x, u)])
    (hsp : ∀ H : Hp, Only H → SqL K H a (ns.map V.int) → sp [.ref a] H (fun v _ => v = .bl true) fun _ _ _ => False) :
    codeAny (model P w) callerA (.call (.ref fa) ⟨[.ref a], []⟩) (fun r s' => r = .ok (.ret (.bool true)) ∧ OldK s1.heap s'.heap ∧ s'.os = s1.os ∧ AllBare s'.gens) s1 := by
  have rv := vals_ints hi
  have lv := hi.length
  suffices core : ∀ H : Hp, Only H → SqL K H a (ns.map V.int) → HOk P w H s1.heap → (∀ b, H b ≠ none → b = a) → (H a ≠ none → K.lookup a = none) →
      codeAny (model P w) callerA (.call (.ref fa) ⟨[.ref a], []⟩) (fun r s' => r = .ok (.ret (.bool true)) ∧ OldK s1.heap s'.heap ∧ s'.os = s1.os ∧ AllBare s'.gens) s1 by
    rcases hk : K.lookup a with _ | o
    · let H1 : Hp := fun b => if b = a then some (.frz { cls := .type "list", data := .seq vs.toArray } (.lst (ns.map V.int))) else none
      have h1 : H1 a = some (.frz { cls := .type "list", data := .seq vs.toArray } (.lst (ns.map V.int))) := if_pos rfl
      have h2 : ∀ b, b ≠ a → H1 b = none := fun b n => if_neg n
      refine core H1 (fun b => ?_) (.inl (.inr ⟨_, h1⟩)) (fun b u z => ?_) (fun b z => Classical.byContradiction fun n => z (h2 b n)) (fun _ => hk)
      · rcases Classical.em (b = a) with rfl | n
        · exact .inr ⟨_, _, h1⟩
        · exact .inl (h2 b n)
      · rcases Classical.em (b = a) with rfl | n
        · rw [h1] at z
          cases z
          exact ⟨ha, by rw [List.length_map]; exact hl, vs, _, rv, ha⟩
        · rw [h2 b n] at z
          cases z
    · have e := KX a o hk
      rw [ha] at e
      cases e
      exact core (fun _ => none) (fun _ => .inl rfl) (.inr ⟨_, vs.toArray, _, hk, rfl, rfl, rfl, by rw [List.size_toArray, lv]; exact hl, by simpa using rv⟩) (fun b u z => by cases (show (none : Option HO) = some u from z)) (fun b z => absurd rfl z) (fun z => absurd rfl z)
  intro H hO hS hok hA hK
  have free : ∀ {b : Addr}, b ≠ a → H b = none := fun {b} n => Classical.byContradiction fun z => n (hA b z)
  have nodict : ∀ {b : Addr} {o : Obj} {es : Array DictEntry} {ep : Nat}, s1.heap.get? b = some o → o.data = .dict es ep → H b = none := fun {b o es ep} z d => free fun y => by
    subst y
    rw [ha] at z
    cases z
    cases (show Data.seq vs.toArray _ = Data.dict es ep from d)
  have ns' : ∀ {b : Addr} {m : Str → Option Value}, s1.heap.Ns b m → (hidT s1.heap H).Ns b m := fun ⟨o, es, ep, z, d, r⟩ => ⟨o, es, ep, hidT_get z (nodict z d), d, r⟩
  have kin : K.In (hidT s1.heap H) := fun b o z => hidT_get (KX b o z) (Classical.byContradiction fun y => by
    have e := hA b y
    subst e
    rw [hK y] at z
    cases z)
  have e0 : Env0 P w K mg (hidT s1.heap H) callerA [] s1 H := ⟨rfl, ⟨kin, ns' g1, ⟨mb, ns' g2, g3⟩, let ⟨mc, z1, z2⟩ := g4; ⟨mc, ns' z1, z2⟩⟩, (fun b o z => of_hidT z), Nat.le_of_eq (hidT_size _ _), trivial, (fun b z => nomatch (show b ∈ ([] : List Addr) from z)), hok, .of_eq g5⟩
  refine codeAny_mono ((F _ kin (ns' g1)).run callerA [] s1 H ⟨[.ref a], []⟩ [.ref a] [.ref a] _ _ hr rfl e0 (bi s1 (.ref a)) (.cons rfl .nil) (hsp H hO hS)) fun r s' z => ?_
  match r, z with
  | .ok .next, z => exact False.elim z
  | .ok .brk, z => exact False.elim z
  | .ok .cont, z => exact False.elim z
  | .error e, z => exact False.elim z
  | .ok (.ret u), z =>
    obtain ⟨v, H', os, bare, un, hok', r', q⟩ := z
    have q : v = .bl true := q
    subst q
    obtain rfl : u = Value.bool true := r'
    refine ⟨rfl, OldK.of_keep fun b o z => ?_, os, bare⟩
    rcases hO b with y | ⟨ob, xs, y⟩
    · exact un.keep b o z y (fun y => nomatch (show b ∈ ([] : List Addr) from y)) (by simp)
    · obtain ⟨z1, _⟩ := hok b _ y
      obtain ⟨z2, _⟩ := hok' b _ (un.frzs b ob _ y)
      rw [z] at z1
      cases z1
      exact z2
theorem walkG {l : PySem.W.OpenLaw} {n k : Nat} {q : Program} {loose : List Str} {XP : (Str → Option Value) → Heap → Prop} {YP : World → Heap → Prop} {d : DefRec} {K : Params → PySem.W.Frag} {sp : World → Sp} {x : Str}
    (hn : l.most = some n) (hn2 : n ≤ sizeLine) (hdf : d.params.defaults = []) (hr : Room k callerA) (hY : ∀ (w : World) (h : Heap), YP w h → (K w.params).In h)
    (F : ∀ (w : World) (mg : Str → Option Value) (fa : Addr) (h : Heap), (K w.params).In h → h.Ns mainGlobals mg → mg d.name = some (.ref fa) →
      ∃ fd : FuncData, (∀ (s : Shared) (u : Value), BindsTo s fd ⟨[u], []⟩ [(x, u)]) ∧ ∀ base : Heap, (K w.params).In base → base.Ns mainGlobals mg → FnG l.prog w (K w.params) mg base k fa fd [x] (sp w))
    (hsp : ∀ (w : World) (H : Hp) (a : Addr) (ns : List Int), ns.length ≤ n → Only H → SqL (K w.params) H a (ns.map V.int) → sp w [.ref a] H (fun v _ => v = .bl true) fun _ _ _ => False) :
    PySem.W.WalkO q loose XP YP l.row.toRowW d [] (fun f vs => PySem.call f vs) :=
  Att.attach_call hn hdf fun w s0 s1 mg mb fa o pm cd doc a vs ns G Y ho hd hcd hmg hobj hints hlen hg => by
    obtain ⟨fd, hb, hF⟩ := F w mg fa _ (hY w _ Y) G.T.g hmg
    exact lawG (hY w _ Y) G.T.g G.T.b G.T.builtins G.T.nolimit hg hobj hints (Nat.le_trans hlen hn2) hr hF hb fun H hO hS => hsp w H a ns hlen hO hS
/-- room, and no repr under way -/
structure Rm (k : Nat) (A : Around) : Prop extends Room k A where
  gd : A.guards = some []
theorem Rm.mono {j k : Nat} {A : Around} (r : Rm k A) (h : j ≤ k) : Rm j A := ⟨r.toRoom.mono h, r.gd⟩

/-! ### shared words: a def of the text, its promise, calls -/
/-- a def of the text as it stands behind the top -/
def Df (K : PySem.W.Frag) (mg : Str → Option Value) (x : Str) (st : Stmt) (ps : List Str) : Prop :=
  ∃ (f : Addr) (fd : FuncData), Fun K x x st f fd ∧ Binds K fd ps [] ∧ mg x = some (.ref f)
/-- a def that keeps a promise -/
def Ok (P : Program) (w : World) (K : PySem.W.Frag) (mg : Str → Option Value) (base : Heap) (k : Nat) (x : Str) (ps : List Str) (sp : Sp) : Prop :=
  ∃ (f : Addr) (fd : FuncData), mg x = some (.ref f) ∧ PySem.W.keepIn K (.ref f) = true ∧ Binds K fd ps [] ∧ FnG P w K mg base k f fd ps sp
section
variable {P : Program} {w : World} {K : PySem.W.Frag} {mg : Str → Option Value} {base : Heap}
theorem Ok.mk {x : Str} {st : Stmt} {N ps : List Str} {k : Nat} {sp : Sp} (D : Df K mg x st ps) (S : FnScope N ps (defScope st)) (len : ∀ vs H Q E, sp vs H Q E → vs.length = ps.length)
    (hbody : ∀ (f : Addr) (cdv : Value) (A : Around) (outer : List Env) (s : Shared) (H : Hp) (vs : List V) (Q : VK) (E : XK), Rm k (A.deeper (envOfC x (defScope st) s.heap.objs.size f cdv)) → sp vs H Q E →
      ∃ t, PSs (cxOf CX0 P w K mg base N x (defScope st) f cdv A outer s H E).nox (defBody st) t ∧ t { nx := fun _ H' => Q .non H', rt := Q } (start N vs) H) : Ok P w K mg base (k + 1) x ps sp := by
  obtain ⟨f, fd, F, b, g⟩ := D
  exact ⟨f, fd, g, F.kp, b, Fun.okG F S len fun cdv A outer s H vs Q E hr hg h => hbody f cdv A outer s H vs Q E ⟨hr, hg⟩ h⟩
theorem Ok.mono {x : Str} {ps : List Str} {j k : Nat} {sp : Sp} (h : Ok P w K mg base j x ps sp) (l : j ≤ k) : Ok P w K mg base k x ps sp := by
  obtain ⟨f, fd, hm, hk, hb, F⟩ := h
  exact ⟨f, fd, hm, hk, hb, F.mono l⟩
theorem Ok.imp {x : Str} {ps : List Str} {k : Nat} {sp sp' : Sp} (h : Ok P w K mg base k x ps sp) (q : ∀ vs H Q E, sp' vs H Q E → sp vs H Q E) : Ok P w K mg base k x ps sp' := by
  obtain ⟨f, fd, hm, hk, hb, F⟩ := h
  exact ⟨f, fd, hm, hk, hb, F.imp q⟩
end
section
variable {X : Cx}
theorem pe_fn {k : Nat} {x : Str} {ps : List Str} {sp : Sp} {e : Expr} {es : List Expr} {t : TA} {p pos : Pos} (O : Ok X.prog X.w X.K X.mg X.base k x ps sp) (hr : Rm k X.A) (hg : Gl X x) (ha : PA X (e :: es) t)
    (hdb : (x == ("__debug__" : Str)) = false := by decide) (he : starEach (e :: es) X.env = (false, eval e X.env) :: starEach es X.env := by rfl) (hpl : (backTo pos (starEach es X.env)).any (·.1) = false := by rfl) :
    PE X (.Call (.Name x p) (e :: es) [] pos) (tCall sp [] E0 t) := by
  obtain ⟨f, fd, hm, hk, hb, F⟩ := O
  exact pe_callG F hr.toRoom hr.gd hg hm hk hb ha hdb he hpl
theorem pe_fn0 {k : Nat} {x : Str} {ps : List Str} {sp : Sp} {p pos : Pos} (O : Ok X.prog X.w X.K X.mg X.base k x ps sp) (hr : Rm k X.A) (hg : Gl X x) (hdb : (x == ("__debug__" : Str)) = false := by decide) :
    PE X (.Call (.Name x p) [] [] pos) (tCall sp [] E0 tNil) := by
  obtain ⟨f, fd, hm, hk, hb, F⟩ := O
  exact pe_callG0 F hr.toRoom hr.gd hg hm hk hb hdb
/-- a name that is a local -/
theorem pg_nameL {i : Nat} {x : Str} {pos : Pos} (hN : X.N.Nodup) (hi : X.N[i]? = some x) (hx : X.env.scope.names.lookup x = some .local) : PG X (.Name x pos) (gName i) := pg_name hN hi (.inl hx) (.inr hx)
/-- xs[i], for xs[i] op= e -/
theorem get_list : PGet X (rIxL X.K) := by
  intro pins s σ H x y v u Q I rx ry h
  obtain ⟨p, xs, i, z, rfl, rfl, hq, he, q⟩ := h
  cases rx
  obtain ⟨t, rfl⟩ := ry
  obtain ⟨its, r, pl, hz⟩ := I.list hq
  obtain ⟨j, h1, h2, h3, h4, h5⟩ := atI_get he
  obtain ⟨w, ew, rw'⟩ := r.get h2
  have hl := r.length
  have hn := line63
  have fin : EP X pins σ Q w s := ⟨z, H, I, rw', q⟩
  by_cases h0 : 0 ≤ i
  · have hj : i.toNat = j := by
      rw [seqIndex_of h0 h5] at h1
      exact Option.some.inj h1
    exact wpAny_getItem_list pl.isList h0 (by omega) (by rw [hj]; simpa using ew) fin
  · have hj : (i + (its.toArray.size : Int)).toNat = j := by
      rw [seqIndex_neg (by omega) h4] at h1
      rw [List.size_toArray, ← hl]
      exact Option.some.inj h1
    exact wpAny_getItem_list_neg pl.isList (by omega) (by rw [List.size_toArray] <;> omega) (by omega) (by rw [hj]; simpa using ew) fin
end
/-! ### heaps -/
theorem same_upd {H : Hp} {p : Addr} {o : HO} (h : H p = none) : Same H (upd H p o) := fun b x e => by
  rw [upd_ne (ne_of_none e h)]
  exact e
/-- all but p is as it was -/
def But (p : Addr) (H H' : Hp) : Prop := ∀ b o, b ≠ p → H b = some o → H' b = some o
theorem But.refl (p : Addr) (H : Hp) : But p H H := fun _ _ _ h => h
theorem But.of {p : Addr} {H H' : Hp} (h : Same H H') : But p H H' := fun b o _ e => h b o e
theorem But.trans {p : Addr} {H H1 H2 : Hp} (a : But p H H1) (b : But p H1 H2) : But p H H2 := fun c o n h => b c o n (a c o n h)
theorem But.upd {p : Addr} {H : Hp} {o : HO} : But p H (upd H p o) := fun b x n e => by rw [upd_ne n]; exact e
theorem But.new {p q : Addr} {H : Hp} {o : HO} (h : H q = none) : But p H (L2.upd H q o) := But.of (same_upd h)
theorem But.free {p : Addr} {H H' : Hp} (e : But p H H') {l : Addr} (n : l ≠ p) (h : H' l = none) : H l = none := by
  cases q : H l with
  | none => rfl
  | some o => rw [e l o n q] at h; cases h
/-! ### the pen: [cells, at, rest] -/
/-- a pen at p, its cells at c, of which at most n were taken -/
structure Pen (H : Hp) (p c : Addr) (n : Nat) : Prop where
  pen : ∃ (at_ rest : Int), H p = some (.lst [.ref c, .int at_, .int rest]) ∧ 0 ≤ at_ ∧ at_ ≤ (n : Int) ∧ 0 ≤ rest
  cells : ∃ ns : List Int, H c = some (.lst (ns.map V.int))
  ne : c ≠ p
theorem Pen.but {H H' : Hp} {p c q : Addr} {n : Nat} (h : Pen H p c n) (b : But q H H') (n1 : p ≠ q) (n2 : c ≠ q) : Pen H' p c n := by
  obtain ⟨⟨a, r, e, z⟩, ⟨ns, e2⟩, ne⟩ := h
  exact ⟨⟨a, r, b _ _ n1 e, z⟩, ⟨ns, b _ _ n2 e2⟩, ne⟩
theorem Pen.same {H H' : Hp} {p c : Addr} {n : Nat} (h : Pen H p c n) (b : Same H H') : Pen H' p c n := by
  obtain ⟨⟨a, r, e, z⟩, ⟨ns, e2⟩, ne⟩ := h
  exact ⟨⟨a, r, b _ _ e, z⟩, ⟨ns, b _ _ e2⟩, ne⟩
theorem Pen.mono {H : Hp} {p c : Addr} {n m : Nat} (h : Pen H p c n) (l : n ≤ m) : Pen H p c m := by
  obtain ⟨⟨a, r, e, z1, z2, z3⟩, ns, ne⟩ := h
  exact ⟨⟨a, r, e, z1, by omega, z3⟩, ns, ne⟩
theorem Pen.new {H : Hp} {p c q : Addr} {n : Nat} (h : Pen H p c n) (e : H q = none) : p ≠ q ∧ c ≠ q := by
  obtain ⟨⟨a, r, e1, _⟩, ⟨ns, e2⟩, ne⟩ := h
  exact ⟨ne_of_none e1 e, ne_of_none e2 e⟩
theorem Pen.free {H : Hp} {p c q : Addr} {n : Nat} (h : Pen H p c n) (e : H q = none) : q ≠ p ∧ q ≠ c := ⟨(h.new e).1.symm, (h.new e).2.symm⟩
/-- the law's script -/
def spLaw (K : PySem.W.Frag) : Sp := fun vs H Q _ => ∃ (a : Addr) (ns : List Int), vs = [.ref a] ∧ SqL K H a (ns.map V.int) ∧ ns.length ≤ 63 ∧ ∀ H', Q (.bl true) H'
def spSpread : Sp := fun vs H Q _ => ∃ c a : Int, vs = [.int c, .int a] ∧ 0 ≤ a ∧ a ≤ 1000000000 ∧ ∀ (r : Int) (H' : Hp), 0 ≤ r → Same H H' → Q (.int r) H'
def spOpen (K : PySem.W.Frag) : Sp := fun vs H Q _ => ∃ (a : Addr) (ns : List Int), vs = [.ref a] ∧ SqL K H a (ns.map V.int) ∧ ns.length ≤ 63 ∧ ∀ p c H', Same H H' → H p = none → H c = none → Pen H' p c 0 → Q (.ref p) H'
def spTake : Sp := fun vs H Q _ => ∃ (p c : Addr) (n : Nat) (m : Int), vs = [.ref p, .int m] ∧ Pen H p c n ∧ n ≤ 1000000000 ∧ 0 < m ∧ m.natAbs < 2 ^ 9000 ∧
  ∀ (r : Int) (H' : Hp), 0 ≤ r → r < m → But p H H' → Pen H' p c (n + 1) → Q (.int r) H'
theorem cut_take (xs : List V) (b : Nat) : cutV xs none (some (b : Int)) = xs.take b := by
  unfold cutV
  rw [HT.sIx_none, HT.sIx_nat, List.drop_zero, Nat.sub_zero]
  rcases Nat.le_total b xs.length with h | h
  · rw [Nat.min_eq_left h]
  · rw [Nat.min_eq_right h, List.take_of_length_le (Nat.le_refl _), List.take_of_length_le h]
theorem cut_drop (xs : List V) (a b : Nat) (h : a ≤ b) : cutV xs (some (a : Int)) (some (b : Int)) = (xs.take b).drop a := by
  unfold cutV
  rw [HT.sIx_nat, HT.sIx_nat]
  apply List.ext_getElem?
  intro i
  rw [List.getElem?_take, List.getElem?_drop, List.getElem?_drop, List.getElem?_take]
  by_cases h1 : a ≤ xs.length
  · rw [Nat.min_eq_left h1]
    by_cases h2 : b ≤ xs.length
    · rw [Nat.min_eq_left h2]
      by_cases h3 : i < b - a
      · rw [if_pos h3, if_pos (by omega)]
      · rw [if_neg h3, if_neg (by omega)]
    · rw [Nat.min_eq_right (by omega)]
      by_cases h3 : a + i < xs.length
      · rw [if_pos (by omega), if_pos (by omega)]
      · rw [List.getElem?_eq_none (by omega)]
        simp
  · rw [Nat.min_eq_right (by omega), List.getElem?_eq_none (by omega), List.getElem?_eq_none (show xs.length ≤ a + i by omega)]
    simp
theorem atI_of {α : Type} {xs : List α} {i : Int} {v : α} (j : Nat) (e : i = (j : Int)) (h : xs[j]? = some v) : atI xs i = some v := by subst e; exact atI_nat h
theorem ixN_of {n : Nat} {i : Int} (j : Nat) (e : i = (j : Int)) (h : j < n) : ixN n i = some j := by
  subst e
  unfold ixN
  rw [if_pos (by omega), if_pos (by omega)]
  simp

/-! ### data: values as trees -/
/-- less than n deep, no list too long -/
def fit : Nat → PyData → Prop
  | 0, _ => False
  | n + 1, .list xs => xs.length < sizeLine ∧ ∀ x ∈ xs, fit n x
  | n + 1, .tuple xs => xs.length < sizeLine ∧ ∀ x ∈ xs, fit n x
  | _ + 1, _ => True
theorem fit_mono : ∀ {n m : Nat} {d : PyData}, fit n d → n ≤ m → fit m d
  | 0, _, _, h, _ => False.elim h
  | n + 1, 0, _, _, l => absurd l (by omega)
  | n + 1, m + 1, .list xs, h, l => ⟨h.1, fun x hx => fit_mono (h.2 x hx) (by omega)⟩
  | n + 1, m + 1, .tuple xs, h, l => ⟨h.1, fun x hx => fit_mono (h.2 x hx) (by omega)⟩
  | n + 1, m + 1, .none, _, _ => True.intro
  | n + 1, m + 1, .bool _, _, _ => True.intro
  | n + 1, m + 1, .int _, _, _ => True.intro
  | n + 1, m + 1, .str _, _, _ => True.intro
  | n + 1, m + 1, .dict _, _, _ => True.intro
theorem ifn {c A B : Prop} [Decidable c] (h : ¬ c) (b : B) : if c then A else B := by rw [if_neg h]; exact b
theorem ifp {c A B : Prop} [Decidable c] (h : c) (a : A) : if c then A else B := by rw [if_pos h]; exact a
theorem yes {σ : L2.St} {H : Hp} {Q : Bool → Hp → Prop} (h : Q true H) : tYes σ H Q := h
inductive Cl where | bool | int | str | tuple | list | dict
def Cl.name : Cl → String
  | .bool => "bool" | .int => "int" | .str => "str" | .tuple => "tuple" | .list => "list" | .dict => "dict"
/-- isinstance of data -/
def isB : Cl → PyData → Bool
  | .bool, .bool _ => true
  | .int, .bool _ => true
  | .int, .int _ => true
  | .str, .str _ => true
  | .tuple, .tuple _ => true
  | .list, .list _ => true
  | .dict, .dict _ => true
  | _, _ => false
def tyD : PyData → String
  | .none => "NoneType" | .bool _ => "bool" | .int _ => "int" | .str _ => "str" | .list _ => "list" | .tuple _ => "tuple" | .dict _ => "dict"
theorem kitB_nn (c : Cl) (d : PyData) : kitB (tyD d) c.name = some (isB c d) := by
  cases c <;> cases d <;> (simp only [tyD, Cl.name, isB]; decide +kernel)
section
variable {K : PySem.W.Frag} {H H' : Hp}
theorem tyX_list {a : Addr} {xs : List V} (h : SqL K H a xs) : TyX K H (.ref a) (.type "list") := by
  rcases h with (h | ⟨o, h⟩) | ⟨o, its, n, h, c, _⟩
  · exact .base (.lst h)
  · exact .base (.frz h)
  · exact .kList h c
theorem tyX_tup {a : Addr} {xs : List V} (h : SqT K H a xs) : TyX K H (.ref a) (.type "tuple") := by
  rcases h with (h | ⟨o, h⟩) | ⟨o, its, n, h, c, _⟩
  · exact .base (.tup h)
  · exact .fTuple h
  · exact .kTuple h c
theorem tyX_of {x : V} {d : PyData} (h : Dp K H x d) : TyX K H x (.type (tyD d)) := by
  cases h with
  | non => exact .base .non
  | bl b => exact .base (.bl b)
  | int i => exact .base (.int i)
  | str z => exact .base (.str z)
  | lst q _ => exact tyX_list q
  | tup q _ => exact tyX_tup q
/-- isinstance(x, T) of data -/
def rIsiD (K : PySem.W.Frag) : List V → Hp → VK → Prop := fun xs H Q => ∃ (c : Cl) (x : V) (d : PyData), xs = [x, .ty c.name] ∧ Dp K H x d ∧ Q (.bl (isB c d)) H
theorem call_isiD {X : Cx} : CallR X (.builtin "isinstance") (rIsiD X.K) := by
  intro pins s σ H xs us Q I r h
  obtain ⟨c, x, d, rfl, hd, q⟩ := h
  exact call_isi pins s σ H _ us Q I r ⟨x, _, _, _, _, rfl, .ty _, tyX_of hd, kit_ty (kitB_nn c d), q⟩
theorem Same.sqT {a : Addr} {xs : List V} (e : Same H H') (h : SqT K H a xs) : SqT K H' a xs := by
  rcases h with (h | ⟨o, h⟩) | h
  · exact .inl (.inl (e _ _ h))
  · exact .inl (.inr ⟨o, e _ _ h⟩)
  · exact .inr h
mutual
theorem Dp_same (e : Same H H') : ∀ {x : V} {d : PyData}, Dp K H x d → Dp K H' x d
  | _, _, .non => .non
  | _, _, .bl b => .bl b
  | _, _, .int i => .int i
  | _, _, .str z => .str z
  | _, _, .lst q a => .lst (e.seq q) (DpAll_same e a)
  | _, _, .tup q a => .tup (Same.sqT e q) (DpAll_same e a)
theorem DpAll_same (e : Same H H') : ∀ {xs : List V} {ds : List PyData}, DpAll K H xs ds → DpAll K H' xs ds
  | _, _, .nil => .nil
  | _, _, .cons a b => .cons (Dp_same e a) (DpAll_same e b)
end
theorem DpAll_len : ∀ {xs : List V} {ds : List PyData}, DpAll K H xs ds → xs.length = ds.length
  | _, _, .nil => rfl
  | _, _, .cons _ b => by rw [List.length_cons, List.length_cons, DpAll_len b]
theorem DpAll_get : ∀ {xs : List V} {ds : List PyData} {i : Nat} {x : V}, DpAll K H xs ds → xs[i]? = some x → ∃ d, ds[i]? = some d ∧ Dp K H x d
  | _, _, 0, _, .cons a _, e => by
    cases e
    exact ⟨_, rfl, a⟩
  | _, _, i + 1, x, .cons _ b, e => DpAll_get (i := i) b e
theorem DpAll_ints : ∀ ns : List Int, DpAll K H (ns.map V.int) (ns.map PyData.int)
  | [] => .nil
  | n :: ns => .cons (.int n) (DpAll_ints ns)
theorem walk_zipT {a b : Addr} {xs ys : List V} {n : Nat} (hn : n = min xs.length ys.length) : Walk (ItzT K a b) n (fun H => SqT K H a xs ∧ SqT K H b ys) (YPair (fun i => xs[i]?) (fun i => ys[i]?)) := by
  subst hn
  refine ⟨fun i _ hi q => ?_, fun _ q => ⟨xs, ys, q.1, q.2, by omega⟩, fun i H v H' _ q y => ?_⟩
  · have h1 : i < xs.length := by omega
    have h2 : i < ys.length := by omega
    exact ⟨xs, ys, xs[i], ys[i], q.1, q.2, by simp [h1], by simp [h2]⟩
  · obtain ⟨T, x, z, h1, h2, h3, h4, h5⟩ := y
    exact ⟨T, x, z, h1, h2, h3, h4 xs q.1, h5 ys q.2⟩
theorem inV_trues (n : Nat) : inV (.bl false) (List.replicate n (V.bl true)) = false := by
  unfold inV
  rw [List.any_eq_false]
  intro x hx
  rw [List.eq_of_mem_replicate hx]
  decide
theorem flat_trues (n : Nat) : (List.replicate n (V.bl true)).all flatV = true := by
  rw [List.all_eq_true]
  intro x hx
  rw [List.eq_of_mem_replicate hx]
  rfl
end
/-- _law_same: equal data are alike -/
def spSame (K : PySem.W.Frag) (n : Nat) : Sp := fun vs H Q _ => ∃ (x y : V) (d : PyData), vs = [x, y] ∧ Dp K H x d ∧ Dp K H y d ∧ fit n d ∧ ∀ H', Same H H' → Q (.bl true) H'

/-! ### rules with the written part told (for comprehensions' blocks) -/
section
variable {X : Cx} (K : PySem.W.Frag) (eK : X.K = K)
include eK
theorem ixL : IxR X (rIxL K) := eK ▸ ix_list
theorem ixT : IxR X (rIxT K) := eK ▸ ix_tup
theorem inQ : OpR X (compareOp .In) (rIn K false) := eK ▸ op_in_seq
theorem ninQ : OpR X (compareOp .NotIn) (rIn K true) := eK ▸ op_notIn_seq
def rLenQ (K : PySem.W.Frag) : List V → Hp → VK → Prop := fun xs H Q => ∃ p ys, xs = [.ref p] ∧ (SqL K H p ys ∨ SqT K H p ys) ∧ Q (.int ys.length) H
theorem lenQ : CallR X (.builtin "len") (rLenQ K) := by subst eK; exact call_len_seq
def rListQ (K : PySem.W.Frag) : List V → Hp → VK → Prop := fun xs H Q => ∃ p ys, xs = [.ref p] ∧ (SqL K H p ys ∨ SqT K H p ys) ∧ ∀ l, H l = none → Q (.ref l) (upd H l (.lst ys))
theorem listQ : CallR X (.type "list") (rListQ K) := by subst eK; exact call_list_of
def rTupQ (K : PySem.W.Frag) : List V → Hp → VK → Prop := fun xs H Q => ∃ p ys, xs = [.ref p] ∧ ((SqL K H p ys ∧ ∀ l, H l = none → Q (.ref l) (upd H l (.tup ys))) ∨ (SqT K H p ys ∧ Q (.ref p) H))
theorem tupQ : CallR X (.type "tuple") (rTupQ K) := by subst eK; exact call_tuple_of
theorem slL : SlR X (rSlL K) := by subst eK; exact sl_list
theorem isiQ : CallR X (.builtin "isinstance") (rIsiD K) := by subst eK; exact call_isiD
theorem getL : PGet X (rIxL K) := eK ▸ get_list
theorem pgT {es : List Expr} {k : Nat} {t : TGs} (n : Nat) {pos : Pos} (hc : X.calm = true) (h : PGs X es t) (hn : (assignEach es X.env).length = n := by rfl) (hst : (assignEach es X.env).findIdx? (·.1) = none := by rfl) : PG X (.Tuple es k pos) (gTup K n t) := by
  subst eK
  exact pg_tup hc h hn hst
theorem piL {tg l : Expr} {tl : TE} (hl : PE X l tl) : PI X tg l (iList K tl) := eK ▸ pi_list hl
theorem piT {tg l : Expr} {tl : TE} (hl : PE X l tl) : PI X tg l (iTup K tl) := eK ▸ pi_tup hl
theorem piZ {e e2 : Expr} {ta : TA} {p pos tpos : Pos} {elts : List Expr} {kk : Nat} (hg : Gl X "zip") (hm : X.mg "zip" = none) (ha : PA X [e, e2] ta)
    (hs : starEach [e, e2] X.env = (false, eval e X.env) :: starEach [e2] X.env := by rfl) (hpl : (backTo pos (starEach [e2] X.env)).any (·.1) = false := by rfl) :
    PI X (.Tuple elts kk tpos) (.Call (.Name "zip" p) [e, e2] [] pos) (iZipA K ta) := by
  subst eK
  exact pi_zipA hg hm ha hs hpl
theorem piE {e : Expr} {ta : TA} {p pos tpos : Pos} {elts : List Expr} {kk : Nat} (hg : Gl X "enumerate") (hm : X.mg "enumerate" = none) (ha : PA X [e] ta) (hs : starEach [e] X.env = [(false, eval e X.env)] := by rfl) :
    PI X (.Tuple elts kk tpos) (.Call (.Name "enumerate" p) [e] [] pos) (iEnum K ta) := by
  subst eK
  exact pi_enum hg hm ha hs
theorem revL {e : Expr} {te : TE} {k : Nat} {p1 p2 p3 pos : Pos} (he : PE X e te) : PE X (.Subscript e (.Slice none none (some (.UnaryOp .USub (.Constant (.int 1) k p1) p2)) p3) pos) (tRevL K te) := by
  subst eK
  exact pe_revL he
theorem appK {o e : Expr} {to te : TE} {apos cpos : Pos} (ho : PE X o to) (he : PE X e te) (hbase : attributeBase o "append" X.env (eval o X.env) = eval o X.env := by rfl)
    (hfew : ((backTo cpos (starEach [e] X.env)).all (fun x => !x.1) && (backToKw cpos (keywordEach [] X.env)).all (fun x => x.1.isSome)
      && decide ([e].length + ([] : List Keyword).length + (if ([] : List Keyword).isEmpty then 0 else 1) < 30)) = true := by rfl)
    (hline : (apos.endLine == cpos.line) = true := by rfl) (hs : starEach [e] X.env = (false, eval e X.env) :: starEach [] X.env := by rfl) :
    PE X (.Call (.Attribute o "append" apos) [e] [] cpos) (tBM K "list" rAppend to (tCons te tNil)) := by
  subst eK
  exact pe_bm PySem.F.plainAttrs_list PySem.F.slot_list_append PySem.F.type_list_append mt_append ho (pa_cons he pa_nil hs) hbase hfew hline hs rfl
end

/-! ### the plain layer: values as trees, no heap in sight -/
abbrev D := PyData
def keyD : Key → D
  | .inl i => .int i
  | .inr x => .str x
mutual
inductive Rp (K : PySem.W.Frag) (H : Hp) : V → D → Prop
  | non : Rp K H .non .none
  | bl (b : Bool) : Rp K H (.bl b) (.bool b)
  | int (i : Int) : Rp K H (.int i) (.int i)
  | str (x : Str) : Rp K H (.str x) (.str x)
  | lst {a : Addr} {xs : List V} {ds : List D} : H a = some (.lst xs) → RpAll K H xs ds → Rp K H (.ref a) (.list ds)
  | tup {a : Addr} {xs : List V} {ds : List D} : SqT K H a xs → RpAll K H xs ds → Rp K H (.ref a) (.tuple ds)
  | dic {a : Addr} {kvs : List (Key × V)} {ds : List (D × D)} : H a = some (.dK kvs) → RpKV K H kvs ds → Rp K H (.ref a) (.dict ds)
inductive RpAll (K : PySem.W.Frag) (H : Hp) : List V → List D → Prop
  | nil : RpAll K H [] []
  | cons {v : V} {vs : List V} {d : D} {ds : List D} : Rp K H v d → RpAll K H vs ds → RpAll K H (v :: vs) (d :: ds)
inductive RpKV (K : PySem.W.Frag) (H : Hp) : List (Key × V) → List (D × D) → Prop
  | nil : RpKV K H [] []
  | cons {k : Key} {v : V} {vs : List (Key × V)} {d : D} {ds : List (D × D)} : Rp K H v d → RpKV K H vs ds → RpKV K H ((k, v) :: vs) ((keyD k, d) :: ds)
end
section
variable {K : PySem.W.Frag} {H H' : Hp}
mutual
theorem Rp.mono (e : Same H H') : ∀ {x : V} {d : D}, Rp K H x d → Rp K H' x d
  | _, _, .non => .non
  | _, _, .bl b => .bl b
  | _, _, .int i => .int i
  | _, _, .str z => .str z
  | _, _, .lst q a => .lst (e _ _ q) (RpAll.mono e a)
  | _, _, .tup q a => .tup (Same.sqT e q) (RpAll.mono e a)
  | _, _, .dic q a => .dic (e _ _ q) (RpKV.mono e a)
theorem RpAll.mono (e : Same H H') : ∀ {xs : List V} {ds : List D}, RpAll K H xs ds → RpAll K H' xs ds
  | _, _, .nil => .nil
  | _, _, .cons a b => .cons (Rp.mono e a) (RpAll.mono e b)
theorem RpKV.mono (e : Same H H') : ∀ {xs : List (Key × V)} {ds : List (D × D)}, RpKV K H xs ds → RpKV K H' xs ds
  | _, _, .nil => .nil
  | _, _, .cons a b => .cons (Rp.mono e a) (RpKV.mono e b)
end
theorem RpAll.len : ∀ {xs : List V} {ds : List D}, RpAll K H xs ds → xs.length = ds.length
  | _, _, .nil => rfl
  | _, _, .cons _ b => by rw [List.length_cons, List.length_cons, RpAll.len b]
theorem RpAll.get : ∀ {xs : List V} {ds : List D} {i : Nat} {d : D}, RpAll K H xs ds → ds[i]? = some d → ∃ x, xs[i]? = some x ∧ Rp K H x d
  | _, _, 0, _, .cons a _, e => by
    cases e
    exact ⟨_, rfl, a⟩
  | _, _, i + 1, d, .cons _ b, e => RpAll.get (i := i) b e
theorem RpAll.getV : ∀ {xs : List V} {ds : List D} {i : Nat} {x : V}, RpAll K H xs ds → xs[i]? = some x → ∃ d, ds[i]? = some d ∧ Rp K H x d
  | _, _, 0, _, .cons a _, e => by
    cases e
    exact ⟨_, rfl, a⟩
  | _, _, i + 1, d, .cons _ b, e => RpAll.getV (i := i) b e
theorem RpAll.app : ∀ {xs : List V} {ds : List D} {ys : List V} {es : List D}, RpAll K H xs ds → RpAll K H ys es → RpAll K H (xs ++ ys) (ds ++ es)
  | _, _, _, _, .nil, h => h
  | _, _, _, _, .cons a b, h => .cons a (RpAll.app b h)
theorem RpAll.take : ∀ {xs : List V} {ds : List D} (n : Nat), RpAll K H xs ds → RpAll K H (xs.take n) (ds.take n)
  | _, _, 0, _ => by simp only [List.take_zero]; exact .nil
  | _, _, n + 1, .nil => .nil
  | _, _, n + 1, .cons a b => .cons a (RpAll.take n b)
theorem RpAll.drop : ∀ {xs : List V} {ds : List D} (n : Nat), RpAll K H xs ds → RpAll K H (xs.drop n) (ds.drop n)
  | _, _, 0, h => h
  | _, _, n + 1, .nil => .nil
  | _, _, n + 1, .cons a b => RpAll.drop n b
theorem RpAll.set : ∀ {xs : List V} {ds : List D} {v : V} {d : D} (n : Nat), RpAll K H xs ds → Rp K H v d → RpAll K H (xs.set n v) (ds.set n d)
  | _, _, _, _, _, .nil, _ => .nil
  | _, _, _, _, 0, .cons a b, h => .cons h b
  | _, _, _, _, n + 1, .cons a b, h => .cons a (RpAll.set n b h)
theorem RpAll.rev : ∀ {xs : List V} {ds : List D}, RpAll K H xs ds → RpAll K H xs.reverse ds.reverse
  | _, _, .nil => .nil
  | _, _, .cons a b => by rw [List.reverse_cons, List.reverse_cons]; exact (RpAll.rev b).app (.cons a .nil)
end
/-- the state: each slot's tree, and how many draws at most were taken -/
structure S where
  δ : List (Option D)
  n : Nat
/-- what stays the same through a def's body: M, the slots of its own lists and dicts (changed in place); the pen and its slot; bor, bs: lists and dicts that were handed in to be changed, and their slots -/
structure Cf where
  K : PySem.W.Frag
  pen : Option (Addr × Addr)
  ps : Nat
  M : List Nat
  bor : List Addr := []
  bs : List Nat := []
def IsPen (C : Cf) (b : Addr) : Prop := (∃ c, C.pen = some (b, c)) ∨ b ∈ C.bor
def Own (C : Cf) (σ : L2.St) (b : Addr) : Prop := ∃ i, i ∈ C.M ∧ σ[i]? = some (some (.ref b))
/-- a list's or a dict's object, and its tree -/
inductive Cn (K : PySem.W.Frag) (Hs : Hp) : HO → D → Prop
  | lst {xs : List V} {ds : List D} : RpAll K Hs xs ds → Cn K Hs (.lst xs) (.list ds)
  | dic {kvs : List (Key × V)} {ds : List (D × D)} : RpKV K Hs kvs ds → Cn K Hs (.dK kvs) (.dict ds)
def isC : D → Bool
  | .list _ => true
  | .dict _ => true
  | _ => false
theorem Cn.mono {K : PySem.W.Frag} {Hs Hs' : Hp} (e : Same Hs Hs') {o : HO} {d : D} (h : Cn K Hs o d) : Cn K Hs' o d := by
  cases h with
  | lst a => exact .lst (RpAll.mono e a)
  | dic a => exact .dic (RpKV.mono e a)
theorem Cn.is {K : PySem.W.Frag} {Hs : Hp} {o : HO} {d : D} (h : Cn K Hs o d) : isC d = true := by cases h <;> rfl
theorem Cn.rp {K : PySem.W.Frag} {Hs : Hp} {o : HO} {d : D} {a : Addr} (h : Cn K Hs o d) (e : Hs a = some o) : Rp K Hs (.ref a) d := by
  cases h with
  | lst q => exact .lst e q
  | dic q => exact .dic e q
theorem Rp.cn {K : PySem.W.Frag} {Hs : Hp} {v : V} {d : D} (h : Rp K Hs v d) (c : isC d = true) : ∃ a o, v = .ref a ∧ Hs a = some o ∧ Cn K Hs o d := by
  cases h with
  | lst q a => exact ⟨_, _, rfl, q, .lst a⟩
  | dic q a => exact ⟨_, _, rfl, q, .dic a⟩
  | non => cases c
  | bl _ => cases c
  | int _ => cases c
  | str _ => cases c
  | tup _ _ => cases c
/-- the slots and the heap bear the state; Hs: the part of the heap that stays -/
structure R (C : Cf) (H0 S0 Hs : Hp) (σ : L2.St) (H : Hp) (s : S) : Prop where
  len : σ.length = s.δ.length
  sub : Same Hs H
  slot : ∀ i d, s.δ[i]? = some (some d) → i ∉ C.M → ∃ v, σ[i]? = some (some v) ∧ Rp C.K Hs v d
  mt : ∀ i d, s.δ[i]? = some (some d) → i ∈ C.M → ∃ a o, σ[i]? = some (some (.ref a)) ∧ H a = some o ∧ Hs a = none ∧ Cn C.K Hs o d ∧ (H0 a = none ∨ a ∈ C.bor)
  dead : ∀ i, i ∈ C.M → s.δ[i]? = some none → σ[i]? = some none
  sep : ∀ i j a, i ∈ C.M → j ∈ C.M → σ[i]? = some (some (.ref a)) → σ[j]? = some (some (.ref a)) → i = j
  pn : ∀ p c, C.pen = some (p, c) → σ[C.ps]? = some (some (.ref p)) ∧ Pen H p c s.n ∧ Hs p = none ∧ H0 p ≠ none ∧ H0 c ≠ none ∧ s.δ[C.ps]? = some none ∧ C.ps ∉ C.M ∧ p ∉ C.bor ∧ c ∉ C.bor
  br : ∀ b, b ∈ C.bor → (∃ i, i ∈ C.bs ∧ i ∈ C.M ∧ σ[i]? = some (some (.ref b))) ∧ H0 b ≠ none
  s0 : Same S0 Hs
  h0 : ∀ b o, ¬ IsPen C b → H0 b = some o → H b = some o
  new : ∀ b, S0 b = none → Hs b ≠ none → H0 b = none
/-- from one heap to a later one -/
structure Go (C : Cf) (σ : L2.St) (Hs H Hs' H' : Hp) : Prop where
  st : Same Hs Hs'
  kp : ∀ b o, H b = some o → ¬ Own C σ b → ¬ IsPen C b → H' b = some o
  th : ∀ b o, H b = some o → ∃ o', H' b = some o'
  nw : ∀ b, Hs b = none → Hs' b ≠ none → H b = none
section
variable {C : Cf} {σ : L2.St} {H0 S0 Hs H Hs' H' Hs'' H'' : Hp} {s s' : S}
theorem Go.refl : Go C σ Hs H Hs H := ⟨Same.refl _, fun _ _ h _ _ => h, fun _ o h => ⟨o, h⟩, fun _ h h' => absurd h h'⟩
theorem Go.trans (a : Go C σ Hs H Hs' H') (b : Go C σ Hs' H' Hs'' H'') : Go C σ Hs H Hs'' H'' := by
  refine ⟨a.st.trans b.st, fun c o h n1 n2 => b.kp c o (a.kp c o h n1 n2) n1 n2, fun c o h => ?_, fun c h h' => ?_⟩
  · obtain ⟨o', h'⟩ := a.th c o h
    exact b.th c o' h'
  · cases q : Hs' c with
    | some o => exact a.nw c h (by rw [q]; exact fun z => nomatch z)
    | none =>
      have h1 := b.nw c q h'
      cases q2 : H c with
      | none => rfl
      | some o =>
        obtain ⟨o', h2⟩ := a.th c o q2
        rw [h1] at h2
        cases h2
/-- a value's kinds: E: it lies in the still part; F: a list or dict is new and nobody else's -/
inductive Cat where | E | F
def Fresh (C : Cf) (H0 Hst Hs : Hp) (σ : L2.St) (H : Hp) (a : Addr) (d : D) : Prop :=
  ∃ o, H a = some o ∧ Hs a = none ∧ H0 a = none ∧ Hst a = none ∧ Cn C.K Hs o d ∧ ¬ Own C σ a
def Val (C : Cf) (H0 Hst Hs : Hp) (σ : L2.St) (H : Hp) : Cat → V → D → Prop
  | .E, v, d => Rp C.K Hs v d
  | .F, v, d => if isC d = true then ∃ a, v = .ref a ∧ Fresh C H0 Hst Hs σ H a d else Rp C.K Hs v d
theorem Val.c {Hst : Hp} {v : V} {d : D} (h : Val C H0 Hst Hs σ H .F v d) (e : isC d = true) : ∃ a, v = .ref a ∧ Fresh C H0 Hst Hs σ H a d := by
  have h : (if isC d = true then ∃ a, v = .ref a ∧ Fresh C H0 Hst Hs σ H a d else Rp C.K Hs v d) := h
  rw [if_pos e] at h
  exact h
theorem Val.p {Hst : Hp} {v : V} {d : D} (h : Val C H0 Hst Hs σ H .F v d) (e : isC d = false) : Rp C.K Hs v d := by
  have h : (if isC d = true then ∃ a, v = .ref a ∧ Fresh C H0 Hst Hs σ H a d else Rp C.K Hs v d) := h
  rw [if_neg (by rw [e]; exact Bool.false_ne_true)] at h
  exact h
theorem Val.mkC {Hst : Hp} {a : Addr} {d : D} (f : Fresh C H0 Hst Hs σ H a d) : Val C H0 Hst Hs σ H .F (.ref a) d := by
  obtain ⟨o, _, _, _, _, c, _⟩ := id f
  exact ifp c.is ⟨a, rfl, f⟩
theorem Val.mkP {Hst : Hp} {v : V} {d : D} (h : Rp C.K Hs v d) (e : isC d = false) : Val C H0 Hst Hs σ H .F v d := ifn (by rw [e]; exact Bool.false_ne_true) h
/-- what may be read -/
def Rd' (K : PySem.W.Frag) (Hs H : Hp) (v : V) (d : D) : Prop := if isC d = true then ∃ a o, v = .ref a ∧ H a = some o ∧ Cn K Hs o d else Rp K Hs v d
theorem Rd'.list {K : PySem.W.Frag} {v : V} {ds : List D} (h : Rd' K Hs H v (.list ds)) : ∃ a xs, v = .ref a ∧ H a = some (.lst xs) ∧ RpAll K Hs xs ds := by
  obtain ⟨a, o, rfl, e, c⟩ := (show ∃ a o, v = .ref a ∧ H a = some o ∧ Cn K Hs o (.list ds) from h)
  cases c with
  | lst q => exact ⟨a, _, rfl, e, q⟩
theorem Rd'.dict {K : PySem.W.Frag} {v : V} {ds : List (D × D)} (h : Rd' K Hs H v (.dict ds)) : ∃ a xs, v = .ref a ∧ H a = some (.dK xs) ∧ RpKV K Hs xs ds := by
  obtain ⟨a, o, rfl, e, c⟩ := (show ∃ a o, v = .ref a ∧ H a = some o ∧ Cn K Hs o (.dict ds) from h)
  cases c with
  | dic q => exact ⟨a, _, rfl, e, q⟩
theorem Rd'.mkC {K : PySem.W.Frag} {a : Addr} {o : HO} {d : D} (h : H a = some o) (c : Cn K Hs o d) : Rd' K Hs H (.ref a) d := ifp c.is ⟨a, o, rfl, h, c⟩
theorem Rp.rd {K : PySem.W.Frag} {v : V} {d : D} (h : Rp K Hs v d) (sub : Same Hs H) : Rd' K Hs H v d := by
  cases e : isC d with
  | true =>
    obtain ⟨a, o, rfl, q, c⟩ := h.cn e
    exact Rd'.mkC (sub _ _ q) c
  | false => exact ifn (by rw [e]; exact Bool.false_ne_true) h
theorem Val.rd {Hst : Hp} {cat : Cat} {v : V} {d : D} (h : Val C H0 Hst Hs σ H cat v d) (sub : Same Hs H) : Rd' C.K Hs H v d := by
  cases cat with
  | E => exact Rp.rd h sub
  | F =>
    cases e : isC d with
    | true =>
      obtain ⟨a, rfl, o, h1, _, _, _, c, _⟩ := h.c e
      exact Rd'.mkC h1 c
    | false => exact Rp.rd (h.p e) sub
theorem R.notPen (r : R C H0 S0 Hs σ H s) {a : Addr} (h : H0 a = none) : ¬ IsPen C a := fun z => by
  rcases z with ⟨c, e⟩ | e
  · exact (r.pn a c e).2.2.2.1 h
  · exact (r.br a e).2 h
theorem Val.go {Hst : Hp} {cat : Cat} {v : V} {d : D} (h : Val C H0 Hst Hs σ H cat v d) (r : R C H0 S0 Hs σ H s) (g : Go C σ Hs H Hs' H') : Val C H0 Hst Hs' σ H' cat v d := by
  cases cat with
  | E => exact Rp.mono g.st h
  | F =>
    cases e : isC d with
    | true =>
      obtain ⟨a, rfl, o, h1, h2, h3, h4, h5, h6⟩ := h.c e
      refine Val.mkC ⟨o, g.kp a _ h1 h6 (r.notPen h3), ?_, h3, h4, h5.mono g.st, h6⟩
      cases q : Hs' a with
      | none => rfl
      | some o =>
        have := g.nw a h2 (by rw [q]; exact fun z => nomatch z)
        rw [h1] at this
        cases this
    | false => exact Val.mkP (Rp.mono g.st (h.p e)) e
theorem Val.anew {Hst Hst' : Hp} {cat : Cat} {v : V} {d : D} (h : Val C H0 Hst' Hs σ H cat v d) (e : ∀ a, Hst' a = none → Hst a = none) : Val C H0 Hst Hs σ H cat v d := by
  cases cat with
  | E => exact h
  | F =>
    cases q : isC d with
    | true =>
      obtain ⟨a, rfl, o, h1, h2, h3, h4, h5, h6⟩ := h.c q
      exact Val.mkC ⟨o, h1, h2, h3, e a h4, h5, h6⟩
    | false => exact Val.mkP (h.p q) q
theorem Go.back (g : Go C σ Hs H Hs' H') : ∀ a, H' a = none → H a = none := fun a h => by
  cases q : H a with
  | none => rfl
  | some o => obtain ⟨o', h'⟩ := g.th a o q; rw [h] at h'; cases h'
/-- a new list or dict goes into the still part -/
theorem R.freeze (r : R C H0 S0 Hs σ H s) {a : Addr} {d : D} {Hst : Hp} (f : Fresh C H0 Hst Hs σ H a d) : ∃ Hs', Same Hs Hs' ∧ R C H0 S0 Hs' σ H s ∧ Rp C.K Hs' (.ref a) d ∧ ∀ b, Hs b = none → Hs' b ≠ none → b = a := by
  obtain ⟨o, h1, h2, h3, h4, h5, h6⟩ := f
  have sm : Same Hs (upd Hs a o) := same_upd h2
  refine ⟨upd Hs a o, sm, ⟨r.len, fun b u e => ?_, fun i d e m => ?_, fun i d e m => ?_, r.dead, r.sep, fun p c e => ?_, r.br, r.s0.trans sm, r.h0, fun b e1 e2 => ?_⟩, (h5.mono sm).rp upd_same, fun b e1 e2 => ?_⟩
  · by_cases z : b = a
    · subst z; rw [upd_same] at e; cases e; exact h1
    · rw [upd_ne z] at e; exact r.sub _ _ e
  · obtain ⟨v, e1, e2⟩ := r.slot i d e m
    exact ⟨v, e1, Rp.mono sm e2⟩
  · obtain ⟨b, u, e2, e3, e4, e5, e6⟩ := r.mt i d e m
    refine ⟨b, u, e2, e3, ?_, e5.mono sm, e6⟩
    rw [upd_ne (fun z => h6 ⟨i, m, by rw [← z]; exact e2⟩)]
    exact e4
  · obtain ⟨e1, e2, e3, e4, e5⟩ := r.pn p c e
    refine ⟨e1, e2, ?_, e4, e5⟩
    rw [upd_ne (fun z => e4 (by rw [z]; exact h3))]
    exact e3
  · by_cases z : b = a
    · subst z; exact h3
    · rw [upd_ne z] at e2; exact r.new b e1 e2
  · by_cases z : b = a
    · exact z
    · rw [upd_ne z] at e2; exact absurd e1 e2
end
/-- an expression in the plain layer: from a state to a tree and a state -/
abbrev DT := S → (D → S → Prop) → Prop
/-- te's reading follows from t -/
structure Sim (C : Cf) (cat : Cat) (te : TE) (t : DT) : Prop where
  run : ∀ (H0 S0 Hs : Hp) (σ : L2.St) (H : Hp) (s : S) (Q : D → S → Prop) (Q' : VK), R C H0 S0 Hs σ H s → t s Q →
    (∀ Hs' H' v d s', Go C σ Hs H Hs' H' → R C H0 S0 Hs' σ H' s' → Val C H0 H Hs' σ H' cat v d → Q d s' → Q' v H') → te σ H Q'
section
variable {C : Cf} {te ta tb : TE} {t da db : DT}
/-- a new list laid down -/
theorem Sim.e (h : Sim C .F te t) : Sim C .E te t := by
  refine ⟨fun H0 S0 Hs σ H s Q Q' r q k => h.run H0 S0 Hs σ H s Q Q' r q fun Hs' H' v d s' g r' vl qq => ?_⟩
  cases e : isC d with
  | true =>
    obtain ⟨a, rfl, f⟩ := vl.c e
    obtain ⟨Hs2, s1, r2, rp, nw⟩ := r'.freeze f
    refine k Hs2 H' _ _ s' ⟨g.st.trans s1, g.kp, g.th, fun b e1 e2 => ?_⟩ r2 rp qq
    cases q3 : Hs' b with
    | some o => exact g.nw b e1 (by rw [q3]; exact fun z => nomatch z)
    | none =>
      have := nw b q3 e2
      subst this
      obtain ⟨_, _, _, _, h4, _⟩ := f
      exact h4
  | false => exact k Hs' H' _ _ s' g r' (vl.p e) qq
theorem Sim.toE {cat : Cat} (h : Sim C cat te t) : Sim C .E te t := by
  cases cat with
  | E => exact h
  | F => exact h.e
/-! names and constants -/
def dV (i : Nat) : DT := fun s Q => match s.δ[i]? with
  | some (some d) => Q d s
  | _ => False
theorem sim_var (i : Nat) (hi : i ∉ C.M) : Sim C .E (tVar i) (dV i) := by
  refine ⟨fun H0 S0 Hs σ H s Q Q' r q k => ?_⟩
  unfold dV at q
  split at q
  · rename_i d e
    obtain ⟨v, e1, e2⟩ := r.slot i d e hi
    exact ⟨v, e1, k Hs H v d s Go.refl r e2 q⟩
  · exact q.elim
def dC (d : D) : DT := fun s Q => Q d s
theorem sim_int (i : Int) : Sim C .F (tC (.int i)) (dC (.int i)) := ⟨fun H0 S0 Hs σ H s Q Q' r q k => k Hs H _ (.int i) s Go.refl r (Val.mkP (Rp.int i) rfl) q⟩
theorem sim_bl (b : Bool) : Sim C .F (tC (.bl b)) (dC (.bool b)) := ⟨fun H0 S0 Hs σ H s Q Q' r q k => k Hs H _ (.bool b) s Go.refl r (Val.mkP (Rp.bl b) rfl) q⟩
theorem sim_non : Sim C .F (tC .non) (dC .none) := ⟨fun H0 S0 Hs σ H s Q Q' r q k => k Hs H _ .none s Go.refl r (Val.mkP Rp.non rfl) q⟩
theorem sim_str (x : Str) : Sim C .F (tC (.str x)) (dC (.str x)) := ⟨fun H0 S0 Hs σ H s Q Q' r q k => k Hs H _ (.str x) s Go.refl r (Val.mkP (Rp.str x) rfl) q⟩
/-! operations by values -/
abbrev DO := D → D → (D → Prop) → Prop
/-- r's reading follows from f -/
def OpA (C : Cf) (r : R2) (f : DO) : Prop := ∀ (H0 S0 Hs : Hp) (σ : L2.St) (H : Hp) (s : S) (x y : V) (dx dy : D) (Q : D → Prop) (Q' : VK), R C H0 S0 Hs σ H s → Rd' C.K Hs H x dx → Rd' C.K Hs H y dy → f dx dy Q →
  (∀ Hs' H' v d, Go C σ Hs H Hs' H' → R C H0 S0 Hs' σ H' s → Val C H0 H Hs' σ H' .F v d → Q d → Q' v H') → r x y H Q'
def dOp (f : DO) (da db : DT) : DT := fun s Q => da s fun x s1 => db s1 fun y s2 => f x y fun z => Q z s2
theorem sim_op {r : R2} {f : DO} {ca cb : Cat} (ho : OpA C r f) (ha : Sim C ca ta da) (hb : Sim C cb tb db) : Sim C .F (tOp r ta tb) (dOp f da db) := by
  refine ⟨fun H0 S0 Hs σ H s Q Q' r0 q k => ha.run H0 S0 Hs σ H s _ _ r0 q fun Hs1 H1 x dx s1 g1 r1 v1 q1 => hb.run H0 S0 Hs1 σ H1 s1 _ _ r1 q1 fun Hs2 H2 y dy s2 g2 r2 v2 q2 => ?_⟩
  refine ho H0 S0 Hs2 σ H2 s2 x y dx dy _ _ r2 ((v1.go r1 g2).rd r2.sub) (v2.rd r2.sub) q2 fun Hs3 H3 v d g3 r3 v3 q3 => ?_
  exact k Hs3 H3 v d s2 (g1.trans (g2.trans g3)) r3 (v3.anew (fun a e => (g1.trans g2).back a e)) q3
/-- the left one a list of the def's own: read when the other one is there -/
def dOpM (f : DO) (i : Nat) (db : DT) : DT := fun s Q => (∃ d, s.δ[i]? = some (some d)) ∧ db s fun y s2 => match s2.δ[i]? with
  | some (some x) => f x y fun z => Q z s2
  | _ => False
theorem R.rdM (r : R C H0 S0 Hs σ H s) {i : Nat} {d : D} (hi : i ∈ C.M) (e : s.δ[i]? = some (some d)) : ∃ v, σ[i]? = some (some v) ∧ Rd' C.K Hs H v d := by
  obtain ⟨a, o, e1, e2, _, e3, _⟩ := r.mt i d e hi
  exact ⟨_, e1, Rd'.mkC e2 e3⟩
theorem sim_opM {r : R2} {f : DO} {cb : Cat} (i : Nat) (hi : i ∈ C.M) (ho : OpA C r f) (hb : Sim C cb tb db) : Sim C .F (tOp r (tVar i) tb) (dOpM f i db) := by
  refine ⟨fun H0 S0 Hs σ H s Q Q' r0 q k => ?_⟩
  obtain ⟨⟨d, e⟩, q⟩ := q
  obtain ⟨v, e1, _⟩ := r0.rdM hi e
  refine ⟨v, e1, hb.run H0 S0 Hs σ H s _ _ r0 q fun Hs2 H2 y dy s2 g2 r2 v2 q2 => ?_⟩
  split at q2
  · rename_i x ex
    obtain ⟨v', e2, rd⟩ := r2.rdM hi ex
    rw [e1] at e2
    cases e2
    refine ho H0 S0 Hs2 σ H2 s2 v y x dy _ _ r2 rd (v2.rd r2.sub) q2 fun Hs3 H3 v d g3 r3 v3 q3 => ?_
    exact k Hs3 H3 v d s2 (g2.trans g3) r3 (v3.anew (fun a e => g2.back a e)) q3
  · exact q2.elim
/-- the right one a list of the def's own -/
def dOpR (f : DO) (da : DT) (i : Nat) : DT := fun s Q => da s fun x s2 => match s2.δ[i]? with
  | some (some y) => f x y fun z => Q z s2
  | _ => False
theorem sim_opR {r : R2} {f : DO} {ca : Cat} (i : Nat) (hi : i ∈ C.M) (ho : OpA C r f) (ha : Sim C ca ta da) : Sim C .F (tOp r ta (tVar i)) (dOpR f da i) := by
  refine ⟨fun H0 S0 Hs σ H s Q Q' r0 q k => ha.run H0 S0 Hs σ H s _ _ r0 q fun Hs2 H2 x dx s2 g2 r2 v2 q2 => ?_⟩
  split at q2
  · rename_i y ey
    obtain ⟨v', e2, rd⟩ := r2.rdM hi ey
    refine ⟨v', e2, ho H0 S0 Hs2 σ H2 s2 x v' dx y _ _ r2 (v2.rd r2.sub) rd q2 fun Hs3 H3 v d g3 r3 v3 q3 => ?_⟩
    exact k Hs3 H3 v d s2 (g2.trans g3) r3 (v3.anew (fun a e => g2.back a e)) q3
  · exact q2.elim
def dOpMM (f : DO) (i j : Nat) : DT := fun s Q => match s.δ[i]?, s.δ[j]? with
  | some (some x), some (some y) => f x y fun z => Q z s
  | _, _ => False
theorem sim_opMM {r : R2} {f : DO} (i j : Nat) (hi : i ∈ C.M) (hj : j ∈ C.M) (ho : OpA C r f) : Sim C .F (tOp r (tVar i) (tVar j)) (dOpMM f i j) := by
  refine ⟨fun H0 S0 Hs σ H s Q Q' r0 q k => ?_⟩
  unfold dOpMM at q
  split at q
  · rename_i x y ex ey
    obtain ⟨v, e1, rd1⟩ := r0.rdM hi ex
    obtain ⟨v', e2, rd2⟩ := r0.rdM hj ey
    exact ⟨v, e1, v', e2, ho H0 S0 Hs σ H s v v' x y _ _ r0 rd1 rd2 q fun Hs3 H3 v d g3 r3 v3 q3 => k Hs3 H3 v d s g3 r3 v3 q3⟩
  · exact q.elim
end

/-! ### operations of the plain layer -/
section
variable {K : PySem.W.Frag} {H : Hp}
mutual
theorem Rp.dp : ∀ (d : D) {v : V}, Rp K H v d → d.canLay0 = true → Dp K H v d
  | .none, _, h, _ => by cases h; exact .non
  | .bool b, _, h, _ => by cases h; exact .bl b
  | .int b, _, h, _ => by cases h; exact .int b
  | .str b, _, h, _ => by cases h; exact .str b
  | .list ds, _, h, c => by
    cases h with
    | lst q a => exact .lst (SqL.of q) (RpAll.dp ds a (by simpa [PyData.canLay0] using c))
  | .tuple ds, _, h, c => by
    cases h with
    | tup q a => exact .tup q (RpAll.dp ds a (by simpa [PyData.canLay0] using c))
  | .dict ds, _, _, c => by simp [PyData.canLay0] at c
theorem RpAll.dp : ∀ (ds : List D) {vs : List V}, RpAll K H vs ds → PyData.canLayAll0 ds = true → DpAll K H vs ds
  | [], _, h, _ => by cases h; exact .nil
  | d :: ds, _, h, c => by
    cases h with
    | cons a b =>
      simp only [PyData.canLayAll0, Bool.and_eq_true] at c
      exact .cons (Rp.dp d a c.1) (RpAll.dp ds b c.2)
end
end
/-- data that == may compare -/
def Sh (d : D) : Prop := SeqAt.shaped d = true
theorem Rd'.dp {K : PySem.W.Frag} {Hs H : Hp} {v : V} {d : D} (h : Rd' K Hs H v d) (sub : Same Hs H) (c : Sh d) : Dp K H v d := by
  have c' := SeqAt.canLay_of_shaped c
  cases e : isC d with
  | true =>
    cases d <;> first | (exfalso; have e' : false = true := e; cases e'; done) | skip
    case list ds =>
      obtain ⟨a, xs, rfl, h1, h2⟩ := Rd'.list h
      exact .lst (SqL.of h1) (DpAll_same sub (RpAll.dp ds h2 (by simpa [PyData.canLay0] using c')))
    case dict ds => simp [PyData.canLay0] at c'
  | false =>
    have h : (if isC d = true then _ else Rp K Hs v d) := h
    rw [if_neg (by rw [e]; exact Bool.false_ne_true)] at h
    exact Dp_same sub (Rp.dp _ h c')
section
variable {C : Cf} {σ : L2.St} {H0 S0 Hs H : Hp} {s : S}
/-- a new object in the heap, not of the still part -/
theorem Go.laid {a : Addr} {o : HO} (h : H a = none) : Go C σ Hs H Hs (upd H a o) :=
  ⟨Same.refl _, fun b x e _ _ => by rw [upd_ne (ne_of_none e h)]; exact e, fun b x e => ⟨x, by rw [upd_ne (ne_of_none e h)]; exact e⟩, fun _ h1 h2 => absurd h1 h2⟩
theorem R.laid (r : R C H0 S0 Hs σ H s) {a : Addr} {o : HO} (h : H a = none) : R C H0 S0 Hs σ (upd H a o) s := by
  have sm : Same H (upd H a o) := same_upd h
  refine ⟨r.len, r.sub.trans sm, r.slot, fun i d e m => ?_, r.dead, r.sep, fun p c e => ?_, r.br, r.s0, fun b x n e => sm _ _ (r.h0 b x n e), r.new⟩
  · obtain ⟨b, u, e2, e3, e4⟩ := r.mt i d e m
    exact ⟨b, u, e2, sm _ _ e3, e4⟩
  · obtain ⟨e1, e2, e3⟩ := r.pn p c e
    exact ⟨e1, e2.same sm, e3⟩
theorem R.free0 (r : R C H0 S0 Hs σ H s) {a : Addr} (h : H a = none) : H0 a = none ∧ Hs a = none ∧ ¬ Own C σ a ∧ ¬ IsPen C a := by
  have no : ¬ Own C σ a := fun ⟨i, m, e⟩ => by
    have hi : i < s.δ.length := by rw [← r.len]; exact (List.getElem?_eq_some_iff.mp e).1
    cases q : s.δ[i]'hi with
    | none =>
      have := r.dead i m (by rw [List.getElem?_eq_getElem hi, q])
      rw [e] at this; cases this
    | some d =>
      obtain ⟨b, u, e2, e3, _⟩ := r.mt i d (by rw [List.getElem?_eq_getElem hi, q]) m
      rw [e] at e2; cases e2
      rw [h] at e3; cases e3
  have np : ¬ IsPen C a := fun z => by
    rcases z with ⟨c, e⟩ | e
    · obtain ⟨_, ⟨⟨_, _, e2, _⟩, _, _⟩, _⟩ := r.pn a c e
      rw [h] at e2; cases e2
    · obtain ⟨i, _, m, z⟩ := (r.br a e).1
      exact no ⟨i, m, z⟩
  refine ⟨?_, ?_, no, np⟩
  · cases q : H0 a with
    | none => rfl
    | some o => rw [r.h0 a o np q] at h; cases h
  · cases q : Hs a with
    | none => rfl
    | some o => rw [r.sub a o q] at h; cases h
/-- a new list or dict, nobody else's -/
theorem R.newC (r : R C H0 S0 Hs σ H s) {a : Addr} {o : HO} {d : D} (h : H a = none) (hx : Cn C.K Hs o d) : Val C H0 H Hs σ (upd H a o) .F (.ref a) d := by
  obtain ⟨h0, h1, h2, _⟩ := r.free0 h
  exact Val.mkC ⟨o, upd_same, h1, h0, h, hx, h2⟩
theorem R.newList (r : R C H0 S0 Hs σ H s) {a : Addr} {xs : List V} {ds : List D} (h : H a = none) (hx : RpAll C.K Hs xs ds) : Val C H0 H Hs σ (upd H a (.lst xs)) .F (.ref a) (.list ds) := r.newC h (.lst hx)
/-- a new tuple lies in the still part at once -/
theorem R.newTup (r : R C H0 S0 Hs σ H s) {a : Addr} {o : HO} (h : H a = none) : R C H0 S0 (upd Hs a o) σ (upd H a o) s ∧ Go C σ Hs H (upd Hs a o) (upd H a o) := by
  obtain ⟨h0, h1, h2, h3⟩ := r.free0 h
  have sm : Same H (upd H a o) := same_upd h
  have sm' : Same Hs (upd Hs a o) := same_upd h1
  have r' := r.laid (o := o) h
  refine ⟨⟨r.len, fun b x e => ?_, fun i d e m => ?_, fun i d e m => ?_, r.dead, r.sep, fun p c e => ?_, r.br, r.s0.trans sm', r'.h0, fun b e1 e2 => ?_⟩, sm', fun b x e _ _ => sm _ _ e, fun b x e => ⟨x, sm _ _ e⟩, fun b e1 e2 => ?_⟩
  · by_cases z : b = a
    · subst z; rw [upd_same] at e; rw [upd_same]; exact e
    · rw [upd_ne z] at e; exact r'.sub _ _ e
  · obtain ⟨v, e1, e2⟩ := r.slot i d e m
    exact ⟨v, e1, Rp.mono sm' e2⟩
  · obtain ⟨b, u, e2, e3, e4, e5, e6⟩ := r'.mt i d e m
    refine ⟨b, u, e2, e3, ?_, e5.mono sm', e6⟩
    rw [upd_ne (fun z => h2 ⟨i, m, by rw [← z]; exact e2⟩)]
    exact e4
  · obtain ⟨e1, e2, e3, e4⟩ := r'.pn p c e
    refine ⟨e1, e2, ?_, e4⟩
    rw [upd_ne (fun z => h3 (.inl ⟨c, by rw [← z]; exact e⟩))]
    exact e3
  · by_cases z : b = a
    · subst z; exact h0
    · rw [upd_ne z] at e2; exact r.new b e1 e2
  · by_cases z : b = a
    · subst z; exact h
    · rw [upd_ne z] at e2; exact absurd e1 e2
end
theorem Val.bl {C : Cf} {H0 Hst Hs : Hp} {σ : L2.St} {H : Hp} (b : Bool) : Val C H0 Hst Hs σ H .F (.bl b) (.bool b) := Val.mkP (Rp.bl b) rfl
/-! the operators -/
section
variable {X : Cx} (K : PySem.W.Frag) (eK : X.K = K)
def rAddS : R2 := fun x y H Q => ∃ i j, x = .str i ∧ y = .str j ∧ i.length + j.length ≤ sizeLine ∧ Q (.str (i ++ j)) H
def rAddG (K : PySem.W.Frag) : R2 := fun x y H Q => rI0 (fun i j => .int (i + j)) x y H Q ∨ rAddS x y H Q ∨ rCat x y H Q ∨ rCatA K x y H Q
include eK in
theorem addG : OpR X (binaryOp .Add) (rAddG K) := by
  subst eK
  exact OpR.or op_add (OpR.or op_add_str (OpR.or op_cat op_catA))
def rMulG : R2 := fun x y H Q => rI CMulW (fun i j => .int (i * j)) x y H Q ∨ rRep x y H Q
theorem mulG : OpR X (binaryOp .Mult) rMulG := OpR.or op_mulW op_rep
def rEqG (K : PySem.W.Frag) : R2 := fun x y H Q => rEq x y H Q ∨ rEqD K x y H Q
def rNeG (K : PySem.W.Frag) : R2 := fun x y H Q => rNe x y H Q ∨ rNeD K x y H Q
include eK in
theorem eqG (hu : X.A.units + 64 < cLine) : OpR X (compareOp .Eq) (rEqG K) := by subst eK; exact OpR.or op_eq (op_eqD hu)
include eK in
theorem neG (hu : X.A.units + 64 < cLine) : OpR X (compareOp .NotEq) (rNeG K) := by subst eK; exact OpR.or op_ne (op_neD hu)
def rInS (neg : Bool) : R2 := fun x y H Q => ∃ i j, x = .str i ∧ y = .str j ∧ Q (.bl (xor neg (!(Builtin.Str.occurrences j i 0 j.length 1).isEmpty))) H
def rInG (K : PySem.W.Frag) : R2 := fun x y H Q => rIn K false x y H Q ∨ rInD K x y H Q ∨ rInS false x y H Q
def rNinG (K : PySem.W.Frag) : R2 := fun x y H Q => rIn K true x y H Q ∨ rNotInD K x y H Q ∨ rInS true x y H Q
include eK in
theorem inG (hu : X.A.units + 65 < cLine) : OpR X (compareOp .In) (rInG K) := by
  subst eK
  refine OpR.or op_in_seq (OpR.or (op_inD hu) fun pins s σ H x y v u Q I rx ry h => op_in_str pins s σ H x y v u Q I rx ry ?_)
  obtain ⟨i, j, rfl, rfl, q⟩ := h
  exact ⟨i, j, rfl, rfl, by simpa using q⟩
include eK in
theorem ninG (hu : X.A.units + 65 < cLine) : OpR X (compareOp .NotIn) (rNinG K) := by
  subst eK
  refine OpR.or op_notIn_seq (OpR.or (op_notInD hu) fun pins s σ H x y v u Q I rx ry h => op_notin_str pins s σ H x y v u Q I rx ry ?_)
  obtain ⟨i, j, rfl, rfl, q⟩ := h
  exact ⟨i, j, rfl, rfl, by simpa using q⟩
def rIxG (K : PySem.W.Frag) : R2 := fun x y H Q => rIxL K x y H Q ∨ rIxT K x y H Q ∨ rIxS x y H Q
include eK in
theorem ixG : IxR X (rIxG K) := by subst eK; exact IxR.or ix_list (IxR.or ix_tup ix_str)
end
def addD : DO := fun x y Q => match x, y with
  | .int i, .int j => Q (.int (i + j))
  | .str a, .str b => a.length + b.length ≤ sizeLine ∧ Q (.str (a ++ b))
  | .list a, .list b => a.length + b.length ≤ sizeLine ∧ Q (.list (a ++ b))
  | .tuple a, .tuple b => a.length + b.length ≤ sizeLine ∧ Q (.tuple (a ++ b))
  | _, _ => False
def subD : DO := fun x y Q => match x, y with
  | .int i, .int j => Q (.int (i - j))
  | _, _ => False
def mulD : DO := fun x y Q => match x, y with
  | .int i, .int j => CMulW i j ∧ Q (.int (i * j))
  | .list a, .int k => k < 2 ^ 62 ∧ -(2 ^ 62) < k ∧ a.length * k.toNat ≤ sizeLine ∧ Q (.list (List.replicate k.toNat a).flatten)
  | _, _ => False
def fdivD : DO := fun x y Q => match x, y with
  | .int i, .int j => CDivW i j ∧ Q (.int (i / j))
  | _, _ => False
def modD : DO := fun x y Q => match x, y with
  | .int i, .int j => 0 < j ∧ Q (.int (i % j))
  | _, _ => False
def powD : DO := fun x y Q => match x, y with
  | .int i, .int j => CPow i j ∧ Q (.int (i ^ j.toNat))
  | _, _ => False
def cmpD (p : Int → Int → Bool) : DO := fun x y Q => match x, y with
  | .int i, .int j => Q (.bool (p i j))
  | _, _ => False
/-- == -/
def eqB : D → D → Option Bool
  | .str a, .str b => some (decide (a = b))
  | .int a, .int b => some (decide (a = b))
  | .bool a, .bool b => some (decide (a = b))
  | .none, .none => some true
  | .none, .str _ => some false
  | .str _, .none => some false
  | .none, .int _ => some false
  | .int _, .none => some false
  | .int _, .str _ => some false
  | .str _, .int _ => some false
  | _, _ => none
def eqD : DO := fun x y Q => match eqB x y with
  | some b => Q (.bool b)
  | none => Sh x ∧ Sh y ∧ Q (.bool (PyData.eqv x y))
def neD : DO := fun x y Q => match eqB x y with
  | some b => Q (.bool (!b))
  | none => Sh x ∧ Sh y ∧ Q (.bool (!PyData.eqv x y))
def isND : DO := fun x y Q => match y with
  | .none => Q (.bool (match x with | .none => true | _ => false))
  | _ => False
def notND : DO := fun x y Q => match y with
  | .none => Q (.bool (match x with | .none => false | _ => true))
  | _ => False
/-- a flat tree's == -/
def flatD : D → Bool
  | .none => true
  | .bool _ => true
  | .int _ => true
  | .str _ => true
  | _ => false
def eqF : D → D → Bool
  | .none, .none => true
  | .bool a, .bool b => a == b
  | .bool a, .int b => (if a then 1 else 0) == b
  | .int a, .bool b => a == (if b then 1 else 0)
  | .int a, .int b => a == b
  | .str a, .str b => a == b
  | _, _ => false
def inD (neg : Bool) : DO := fun x y Q => match y with
  | .str b => (match x with
    | .str a => Q (.bool (xor neg (!(Builtin.Str.occurrences b a 0 b.length 1).isEmpty)))
    | _ => False)
  | .tuple ys => flatD x = true ∧ ys.all flatD = true ∧ Q (.bool (xor neg (ys.any fun z => eqF z x)))
  | .list ys => (flatD x = true ∧ ys.all flatD = true ∧ Q (.bool (xor neg (ys.any fun z => eqF z x)))) ∨ (Sh x ∧ Sh (.list ys) ∧ Q (.bool (xor neg (ys.any fun z => PyData.eqv z x))))
  | _ => False
structure IxP (o : Option D) (Q : D → Prop) : Prop where
  ex : ∃ d, o = some d ∧ Q d
structure IxS (z : Str) (i : Int) (Q : D → Prop) : Prop where
  ln : z.length ≤ sizeLine
  ex : ∃ c, atI z.cps.toList i = some c ∧ Q (.str ⟨#[c]⟩)
def ixD : DO := fun x y Q => match y with
  | .int i => (match x with
    | .list ds => IxP (atI ds i) Q
    | .tuple ds => IxP (atI ds i) Q
    | .str z => IxS z i Q
    | _ => False)
  | _ => False
section
variable {C : Cf}
theorem opA_add : OpA C (rAddG C.K) addD := by
  intro H0 S0 Hs σ H s x y dx dy Q Q' r hx hy q k
  cases dx <;> cases dy <;> first | exact q.elim | skip
  case int.int i j => cases hx; cases hy; exact .inl ⟨i, j, rfl, rfl, k Hs H _ (.int (i + j)) Go.refl r (Val.mkP (Rp.int _) rfl) q⟩
  case str.str a b => cases hx; cases hy; exact .inr (.inl ⟨a, b, rfl, rfl, q.1, k Hs H _ (.str (a ++ b)) Go.refl r (Val.mkP (Rp.str _) rfl) q.2⟩)
  case list.list ds es =>
    obtain ⟨a, xs, rfl, h1, h2⟩ := Rd'.list hx
    obtain ⟨b, ys, rfl, h3, h4⟩ := Rd'.list hy
    refine .inr (.inr (.inl ⟨a, b, xs, ys, rfl, rfl, h1, h3, by rw [h2.len, h4.len]; exact q.1, fun p np => ?_⟩))
    exact k Hs _ _ (.list (ds ++ es)) (Go.laid np) (r.laid np) (r.newList np (h2.app h4)) q.2
  case tuple.tuple ds es =>
    cases hx with
    | @tup a xs _ h1 h2 =>
    cases hy with
    | @tup b ys _ h3 h4 =>
    refine .inr (.inr (.inr ⟨a, b, xs, ys, rfl, rfl, Same.sqT r.sub h1, Same.sqT r.sub h3, by rw [h2.len, h4.len]; exact q.1, fun e => ?_, fun _ e => ?_, fun _ _ p np => ?_⟩))
    · subst e
      cases h2
      exact k Hs H _ (.tuple ([] ++ es)) Go.refl r (Val.mkP (Rp.tup h3 h4) rfl) q.2
    · subst e
      cases h4
      exact k Hs H _ (.tuple (ds ++ [])) Go.refl r (Val.mkP (by rw [List.append_nil]; exact Rp.tup h1 h2) rfl) q.2
    · obtain ⟨r', g'⟩ := r.newTup (o := .tup (xs ++ ys)) np
      exact k _ _ _ (.tuple (ds ++ es)) g' r' (Val.mkP (Rp.tup (SqT.of upd_same) (RpAll.mono g'.st (h2.app h4))) rfl) q.2
theorem opA_sub : OpA C (rI0 fun i j => .int (i - j)) subD := by
  intro H0 S0 Hs σ H s x y dx dy Q Q' r hx hy q k
  cases dx <;> cases dy <;> first | exact q.elim | skip
  case int.int i j => cases hx; cases hy; exact ⟨i, j, rfl, rfl, k Hs H _ (.int (i - j)) Go.refl r (Val.mkP (Rp.int _) rfl) q⟩
theorem RpAll.rep {K : PySem.W.Frag} {H : Hp} {xs : List V} {ds : List D} (h : RpAll K H xs ds) : ∀ n : Nat, RpAll K H (List.replicate n xs).flatten (List.replicate n ds).flatten
  | 0 => .nil
  | n + 1 => by rw [List.replicate_succ, List.replicate_succ, List.flatten_cons, List.flatten_cons]; exact h.app (RpAll.rep h n)
theorem opA_mul : OpA C rMulG mulD := by
  intro H0 S0 Hs σ H s x y dx dy Q Q' r hx hy q k
  cases dx <;> cases dy <;> first | exact q.elim | skip
  case int.int i j => cases hx; cases hy; exact .inl ⟨i, j, rfl, rfl, q.1, k Hs H _ (.int (i * j)) Go.refl r (Val.mkP (Rp.int _) rfl) q.2⟩
  case list.int ds n =>
    obtain ⟨a, xs, rfl, h1, h2⟩ := Rd'.list hx
    cases hy
    refine .inr ⟨a, n, xs, rfl, rfl, h1, by have := q.2.1; omega, by have := q.1; omega, by rw [h2.len]; exact q.2.2.1, fun p np => ?_⟩
    exact k Hs _ _ (.list (List.replicate n.toNat ds).flatten) (Go.laid np) (r.laid np) (r.newList np (h2.rep n.toNat)) q.2.2.2
theorem opA_fdiv : OpA C (rI CDivW fun i j => .int (i / j)) fdivD := by
  intro H0 S0 Hs σ H s x y dx dy Q Q' r hx hy q k
  cases dx <;> cases dy <;> first | exact q.elim | skip
  case int.int i j => cases hx; cases hy; exact ⟨i, j, rfl, rfl, q.1, k Hs H _ (.int (i / j)) Go.refl r (Val.mkP (Rp.int _) rfl) q.2⟩
theorem opA_mod : OpA C (rI (fun _ j => 0 < j) fun i j => .int (i % j)) modD := by
  intro H0 S0 Hs σ H s x y dx dy Q Q' r hx hy q k
  cases dx <;> cases dy <;> first | exact q.elim | skip
  case int.int i j => cases hx; cases hy; exact ⟨i, j, rfl, rfl, q.1, k Hs H _ (.int (i % j)) Go.refl r (Val.mkP (Rp.int _) rfl) q.2⟩
theorem opA_pow : OpA C (rI CPow fun i j => .int (i ^ j.toNat)) powD := by
  intro H0 S0 Hs σ H s x y dx dy Q Q' r hx hy q k
  cases dx <;> cases dy <;> first | exact q.elim | skip
  case int.int i j => cases hx; cases hy; exact ⟨i, j, rfl, rfl, q.1, k Hs H _ (.int (i ^ j.toNat)) Go.refl r (Val.mkP (Rp.int _) rfl) q.2⟩
theorem opA_cmp (p : Int → Int → Bool) : OpA C (rI0 fun i j => .bl (p i j)) (cmpD p) := by
  intro H0 S0 Hs σ H s x y dx dy Q Q' r hx hy q k
  cases dx <;> cases dy <;> first | exact q.elim | skip
  case int.int i j => cases hx; cases hy; exact ⟨i, j, rfl, rfl, k Hs H _ (.bool (p i j)) Go.refl r (Val.mkP (Rp.bl _) rfl) q⟩
theorem eqB_some {K : PySem.W.Frag} {Hs H : Hp} {x y : V} {dx dy : D} {b : Bool} (hx : Rd' K Hs H x dx) (hy : Rd' K Hs H y dy) (e : eqB dx dy = some b) : scal x y = true ∧ decide (x = y) = b := by
  cases dx <;> cases dy <;> first | (exfalso; have e' : (none : Option Bool) = some b := e; cases e'; done) | skip
  all_goals (cases hx; cases hy; simp only [eqB, Option.some.injEq] at e; subst e; exact ⟨rfl, by simp⟩)
theorem opA_eq : OpA C (rEqG C.K) eqD := by
  intro H0 S0 Hs σ H s x y dx dy Q Q' r hx hy q k
  unfold eqD at q
  split at q
  · rename_i b e
    obtain ⟨h1, h2⟩ := eqB_some hx hy e
    exact .inl ⟨h1, by rw [h2]; exact k Hs H _ (.bool b) Go.refl r (Val.mkP (Rp.bl _) rfl) q⟩
  · exact .inr ⟨dx, dy, hx.dp r.sub q.1, hy.dp r.sub q.2.1, q.1, q.2.1, k Hs H _ (.bool (PyData.eqv dx dy)) Go.refl r (Val.mkP (Rp.bl _) rfl) q.2.2⟩
theorem opA_ne : OpA C (rNeG C.K) neD := by
  intro H0 S0 Hs σ H s x y dx dy Q Q' r hx hy q k
  unfold neD at q
  split at q
  · rename_i b e
    obtain ⟨h1, h2⟩ := eqB_some hx hy e
    exact .inl ⟨h1, by rw [h2]; exact k Hs H _ (.bool (!b)) Go.refl r (Val.mkP (Rp.bl _) rfl) q⟩
  · exact .inr ⟨dx, dy, hx.dp r.sub q.1, hy.dp r.sub q.2.1, q.1, q.2.1, k Hs H _ (.bool (!PyData.eqv dx dy)) Go.refl r (Val.mkP (Rp.bl _) rfl) q.2.2⟩
def rIsNV : R2 := fun x y H Q => y = .non ∧ Q (.bl (decide (x = .non))) H
def rNotNV : R2 := fun x y H Q => y = .non ∧ Q (.bl (!decide (x = .non))) H
theorem opA_isN : OpA C (fun x y H Q => y = .non ∧ Q (.bl (decide (x = .non))) H) isND := by
  intro H0 S0 Hs σ H s x y dx dy Q Q' r hx hy q k
  cases dy <;> first | exact q.elim | skip
  cases hy
  refine ⟨rfl, ?_⟩
  cases dx with
  | none => cases hx; exact k Hs H _ (.bool true) Go.refl r (Val.mkP (Rp.bl _) rfl) q
  | bool b => cases hx; exact k Hs H _ (.bool false) Go.refl r (by simpa using Val.bl _) q
  | int b => cases hx; exact k Hs H _ (.bool false) Go.refl r (by simpa using Val.bl _) q
  | str b => cases hx; exact k Hs H _ (.bool false) Go.refl r (by simpa using Val.bl _) q
  | list b => obtain ⟨a, xs, rfl, _⟩ := Rd'.list hx; exact k Hs H _ (.bool false) Go.refl r (by simpa using Val.bl _) q
  | tuple b => cases hx; exact k Hs H _ (.bool false) Go.refl r (by simpa using Val.bl _) q
  | dict b => obtain ⟨a, xs, rfl, _⟩ := Rd'.dict hx; exact k Hs H _ (.bool false) Go.refl r (by simpa using Val.bl _) q
theorem opA_notN : OpA C (fun x y H Q => y = .non ∧ Q (.bl (!decide (x = .non))) H) notND := by
  intro H0 S0 Hs σ H s x y dx dy Q Q' r hx hy q k
  cases dy <;> first | exact q.elim | skip
  cases hy
  refine ⟨rfl, ?_⟩
  cases dx with
  | none => cases hx; exact k Hs H _ (.bool false) Go.refl r (Val.mkP (Rp.bl _) rfl) q
  | bool b => cases hx; exact k Hs H _ (.bool true) Go.refl r (by simpa using Val.bl _) q
  | int b => cases hx; exact k Hs H _ (.bool true) Go.refl r (by simpa using Val.bl _) q
  | str b => cases hx; exact k Hs H _ (.bool true) Go.refl r (by simpa using Val.bl _) q
  | list b => obtain ⟨a, xs, rfl, _⟩ := Rd'.list hx; exact k Hs H _ (.bool true) Go.refl r (by simpa using Val.bl _) q
  | tuple b => cases hx; exact k Hs H _ (.bool true) Go.refl r (by simpa using Val.bl _) q
  | dict b => obtain ⟨a, xs, rfl, _⟩ := Rd'.dict hx; exact k Hs H _ (.bool true) Go.refl r (by simpa using Val.bl _) q
theorem flat_rd {K : PySem.W.Frag} {Hs H : Hp} {x : V} {d : D} (h : Rd' K Hs H x d) (f : flatD d = true) : flatV x = true ∧ ∀ {y : V} {e : D}, Rp K Hs y e → flatD e = true → eqV y x = eqF e d := by
  cases d <;> first | (exfalso; have f' : false = true := f; cases f'; done) | skip
  all_goals
    cases h
    refine ⟨rfl, fun {y e} hy fe => ?_⟩
    cases e <;> first | (exfalso; have f' : false = true := fe; cases f'; done) | (cases hy; rfl)
theorem any_rd {K : PySem.W.Frag} {Hs H : Hp} {x : V} {d : D} (h : Rd' K Hs H x d) (f : flatD d = true) : ∀ {xs : List V} {ds : List D}, RpAll K Hs xs ds → ds.all flatD = true → xs.all flatV = true ∧ inV x xs = ds.any fun z => eqF z d
  | _, _, .nil, _ => ⟨rfl, rfl⟩
  | _, _, .cons (v := v) (vs := vs) (d := e) (ds := es) a b, g => by
    rw [List.all_cons, Bool.and_eq_true] at g
    obtain ⟨h1, h2⟩ := any_rd h f b g.2
    have fv : flatV v = true := by
      cases e <;> first | (exfalso; have f' : false = true := g.1; cases f'; done) | (cases a; rfl)
    refine ⟨by rw [List.all_cons, fv, h1]; rfl, ?_⟩
    unfold inV at h2 ⊢
    rw [List.any_cons, List.any_cons, h2, (flat_rd h f).2 a g.1]
theorem opA_inX (neg : Bool) {rr : R2} (h1 : ∀ x y H Q, rIn C.K neg x y H Q → rr x y H Q) (h2 : ∀ x y H Q, rInS neg x y H Q → rr x y H Q)
    (h3 : ∀ x y H (Q : VK), (∃ d ds, Dp C.K H x d ∧ Dp C.K H y (.list ds) ∧ SeqAt.shaped d = true ∧ SeqAt.shaped (.list ds) = true ∧ Q (.bl (xor neg (ds.any fun z => PyData.eqv z d))) H) → rr x y H Q) : OpA C rr (inD neg) := by
  intro H0 S0 Hs σ H s x y dx dy Q Q' r hx hy q k
  cases dy <;> first | exact q.elim | skip
  case str b =>
    cases dx <;> first | exact q.elim | skip
    cases hx; cases hy
    exact h2 _ _ _ _ ⟨_, _, rfl, rfl, k Hs H _ (.bool _) Go.refl r (Val.mkP (Rp.bl _) rfl) q⟩
  case tuple ys =>
    obtain ⟨f1, f2, q⟩ := q
    cases hy with
    | @tup a xs _ e1 e2 =>
    obtain ⟨g1, g2⟩ := any_rd hx f1 e2 f2
    refine h1 _ _ _ _ ⟨a, xs, rfl, .inr (Same.sqT r.sub e1), (flat_rd hx f1).1, g1, ?_⟩
    rw [g2]
    refine k Hs H _ (.bool _) Go.refl r ?_ q
    cases neg with
    | true => simpa using Val.bl _
    | false => simpa using Val.bl _
  case list ys =>
    have hy' := hy
    obtain ⟨a, xs, rfl, e1, e2⟩ := Rd'.list hy
    rcases q with ⟨f1, f2, q⟩ | ⟨f1, f2, q⟩
    · obtain ⟨g1, g2⟩ := any_rd hx f1 e2 f2
      refine h1 _ _ _ _ ⟨a, xs, rfl, .inl (SqL.of e1), (flat_rd hx f1).1, g1, ?_⟩
      rw [g2]
      refine k Hs H _ (.bool _) Go.refl r ?_ q
      cases neg with
      | true => simpa using Val.bl _
      | false => simpa using Val.bl _
    · exact h3 _ _ _ _ ⟨dx, ys, hx.dp r.sub f1, hy'.dp r.sub f2, f1, f2, k Hs H _ (.bool _) Go.refl r (Val.mkP (Rp.bl _) rfl) q⟩
theorem opA_in : OpA C (rInG C.K) (inD false) := opA_inX false (fun _ _ _ _ h => .inl h) (fun _ _ _ _ h => .inr (.inr h)) (fun _ _ _ _ h => by
  obtain ⟨d, ds, a, b, c, e, q⟩ := h
  exact .inr (.inl ⟨d, ds, a, b, c, e, by simpa using q⟩))
theorem opA_nin : OpA C (rNinG C.K) (inD true) := opA_inX true (fun _ _ _ _ h => .inl h) (fun _ _ _ _ h => .inr (.inr h)) (fun _ _ _ _ h => by
  obtain ⟨d, ds, a, b, c, e, q⟩ := h
  exact .inr (.inl ⟨d, ds, a, b, c, e, by simpa using q⟩))
theorem atI_all {K : PySem.W.Frag} {H : Hp} {xs : List V} {ds : List D} {i : Int} {d : D} (h : RpAll K H xs ds) (e : atI ds i = some d) : ∃ v, atI xs i = some v ∧ Rp K H v d := by
  unfold atI at e ⊢
  rw [h.len]
  cases q : ixN ds.length i with
  | none => rw [q] at e; cases e
  | some j =>
    rw [q] at e
    obtain ⟨x, e1, e2⟩ := h.get (i := j) e
    exact ⟨x, e1, e2⟩
theorem opA_ix {ca : Cat} {ta tb : TE} {da db : DT} (ha : Sim C ca ta da) {cb : Cat} (hb : Sim C cb tb db) : Sim C .E (tOp (rIxG C.K) ta tb) (dOp ixD da db) := by
  refine ⟨fun H0 S0 Hs σ H s Q Q' r0 q k => ha.run H0 S0 Hs σ H s _ _ r0 q fun Hs1 H1 x dx s1 g1 r1 v1 q1 => hb.run H0 S0 Hs1 σ H1 s1 _ _ r1 q1 fun Hs2 H2 y dy s2 g2 r2 v2 q2 => ?_⟩
  have rx := (v1.go r1 g2).rd r2.sub
  have ry := v2.rd r2.sub
  cases dy <;> first | exact q2.elim | skip
  cases ry
  cases dx <;> first | exact q2.elim | skip
  case int.list i ds =>
    obtain ⟨a, xs, rfl, e1, e2⟩ := Rd'.list rx
    obtain ⟨⟨d, e, q2⟩⟩ := (show IxP (atI ds i) _ from q2)
    obtain ⟨v, e3, e4⟩ := atI_all e2 e
    exact .inl ⟨a, xs, i, v, rfl, rfl, SqL.of e1, e3, k Hs2 H2 v d s2 (g1.trans g2) r2 e4 q2⟩
  case int.tuple i ds =>
    cases rx with
    | @tup a xs _ e1 e2 =>
    obtain ⟨⟨d, e, q2⟩⟩ := (show IxP (atI ds i) _ from q2)
    obtain ⟨v, e3, e4⟩ := atI_all e2 e
    exact .inr (.inl ⟨a, xs, i, v, rfl, rfl, Same.sqT r2.sub e1, e3, k Hs2 H2 v d s2 (g1.trans g2) r2 e4 q2⟩)
  case int.str i z =>
    cases rx
    obtain ⟨hz, c, e, q2⟩ := (show IxS z i _ from q2)
    exact .inr (.inr ⟨z, i, c, rfl, rfl, hz, e, k Hs2 H2 _ (.str ⟨#[c]⟩) s2 (g1.trans g2) r2 (Rp.str _) q2⟩)
theorem opA_ixM (i : Nat) (hi : i ∈ C.M) {tb : TE} {db : DT} {cb : Cat} (hb : Sim C cb tb db) : Sim C .E (tOp (rIxG C.K) (tVar i) tb) (dOpM ixD i db) := by
  refine ⟨fun H0 S0 Hs σ H s Q Q' r0 q k => ?_⟩
  obtain ⟨⟨d, e⟩, q⟩ := q
  obtain ⟨v, e1, _⟩ := r0.rdM hi e
  refine ⟨v, e1, hb.run H0 S0 Hs σ H s _ _ r0 q fun Hs2 H2 y dy s2 g2 r2 v2 q2 => ?_⟩
  split at q2
  · rename_i x ex
    obtain ⟨a, o, e2, e3, e4, e5, _⟩ := r2.mt i x ex hi
    rw [e1] at e2
    cases e2
    have ry := v2.rd r2.sub
    cases dy <;> first | exact q2.elim | skip
    case int j =>
      cases ry
      cases e5 <;> first | exact q2.elim | skip
      rename_i xs ds e5
      obtain ⟨⟨d, e, q2⟩⟩ := (show IxP (atI ds j) _ from q2)
      obtain ⟨v, e6, e7⟩ := atI_all e5 e
      exact .inl ⟨a, xs, j, v, rfl, rfl, SqL.of e3, e6, k Hs2 H2 v d s2 g2 r2 e7 q2⟩
  · exact q2.elim
end

/-! ### displays, tests, calls -/
abbrev DA := S → (List D → S → Prop) → Prop
structure SimA (C : Cf) (n : Nat) (ta : TA) (t : DA) : Prop where
  run : ∀ (H0 S0 Hs : Hp) (σ : L2.St) (H : Hp) (s : S) (Q : List D → S → Prop) (Q' : List V → Hp → Prop), R C H0 S0 Hs σ H s → t s Q →
    (∀ Hs' H' vs ds s', Go C σ Hs H Hs' H' → R C H0 S0 Hs' σ H' s' → RpAll C.K Hs' vs ds → ds.length = n → Q ds s' → Q' vs H') → ta σ H Q'
abbrev DB := S → (Bool → S → Prop) → Prop
structure SimT (C : Cf) (tt : TT) (t : DB) : Prop where
  run : ∀ (H0 S0 Hs : Hp) (σ : L2.St) (H : Hp) (s : S) (Q : Bool → S → Prop) (Q' : Bool → Hp → Prop), R C H0 S0 Hs σ H s → t s Q →
    (∀ Hs' H' b s', Go C σ Hs H Hs' H' → R C H0 S0 Hs' σ H' s' → Q b s' → Q' b H') → tt σ H Q'
section
variable {C : Cf} {te ta tb tc : TE} {t da db dc : DT} {ca cb cc : Cat}
def dNil : DA := fun s Q => Q [] s
def dCons (a : DT) (r : DA) : DA := fun s Q => a s fun d s1 => r s1 fun ds s2 => Q (d :: ds) s2
theorem simA_nil : SimA C 0 tNil dNil := ⟨fun H0 S0 Hs σ H s Q Q' r q k => k Hs H [] [] s Go.refl r .nil rfl q⟩
theorem simA_cons {n : Nat} {tr : TA} {dr : DA} (ha : Sim C ca ta da) (hr : SimA C n tr dr) : SimA C (n + 1) (tCons ta tr) (dCons da dr) := by
  refine ⟨fun H0 S0 Hs σ H s Q Q' r q k => ha.toE.run H0 S0 Hs σ H s _ _ r q fun Hs1 H1 x dx s1 g1 r1 v1 q1 => hr.run H0 S0 Hs1 σ H1 s1 _ _ r1 q1 fun Hs2 H2 vs ds s2 g2 r2 v2 l2 q2 => ?_⟩
  exact k Hs2 H2 (x :: vs) (dx :: ds) s2 (g1.trans g2) r2 (.cons (Rp.mono g2.st v1) v2) (by rw [List.length_cons, l2]) q2
theorem small_line {n : Nat} (h : n ≤ 1000) : n ≤ sizeLine := Nat.le_trans h (by decide)
def dTup (a : DA) : DT := fun s Q => a s fun ds s1 => Q (.tuple ds) s1
theorem sim_tup {n : Nat} {t : TA} {a : DA} (hn : n ≤ 1000) (h : SimA C n t a) : Sim C .F (tTup t) (dTup a) := by
  refine ⟨fun H0 S0 Hs σ H s Q Q' r q k => h.run H0 S0 Hs σ H s _ _ r q fun Hs1 H1 vs ds s1 g1 r1 v1 l1 q1 => ⟨by rw [v1.len, l1]; exact small_line hn, fun p np => ?_⟩⟩
  obtain ⟨r', g'⟩ := r1.newTup (o := .tup vs) np
  exact k _ _ _ (.tuple ds) s1 (g1.trans g') r' (Val.mkP (Rp.tup (SqT.of upd_same) (RpAll.mono g'.st v1)) rfl) q1
def dLst (a : DA) : DT := fun s Q => a s fun ds s1 => Q (.list ds) s1
theorem sim_lst {n : Nat} {t : TA} {a : DA} (hn : n ≤ 1000) (h : SimA C n t a) : Sim C .F (tLst t) (dLst a) := by
  refine ⟨fun H0 S0 Hs σ H s Q Q' r q k => h.run H0 S0 Hs σ H s _ _ r q fun Hs1 H1 vs ds s1 g1 r1 v1 l1 q1 => ⟨by rw [v1.len, l1]; exact small_line hn, fun p np => ?_⟩⟩
  exact k Hs1 _ _ (.list ds) s1 (g1.trans (Go.laid np)) (r1.laid np) ((r1.newList np v1).anew fun a e => g1.back a e) q1
/-! tests -/
def dBl (a : DT) : DB := fun s Q => a s fun d s1 => match d with
  | .bool b => Q b s1
  | _ => False
theorem Val.bool {H0 Hst Hs : Hp} {σ : L2.St} {H : Hp} {v : V} {b : Bool} {cat : Cat} (h : Val C H0 Hst Hs σ H cat v (.bool b)) : v = .bl b := by
  cases cat with
  | E => cases (show Rp C.K Hs v (.bool b) from h); rfl
  | F => cases h.p rfl; rfl
theorem simT_B (h : Sim C ca te t) : SimT C (tB te) (dBl t) := by
  refine ⟨fun H0 S0 Hs σ H s Q Q' r q k => h.run H0 S0 Hs σ H s _ _ r q fun Hs1 H1 v d s1 g1 r1 v1 q1 => ?_⟩
  cases d <;> first | exact q1.elim | skip
  rename_i b
  cases v1.bool
  exact ⟨b, rfl, k Hs1 H1 b s1 g1 r1 q1⟩
theorem simT_test (h : Sim C ca te t) : SimT C (tTest te) (dBl t) := by
  refine ⟨fun H0 S0 Hs σ H s Q Q' r q k => h.run H0 S0 Hs σ H s _ _ r q fun Hs1 H1 v d s1 g1 r1 v1 q1 => ?_⟩
  cases d <;> first | exact q1.elim | skip
  rename_i b
  cases v1.bool
  exact ⟨b, rfl, k Hs1 H1 b s1 g1 r1 q1⟩
def dAnd (a b : DB) : DB := fun s Q => a s fun c s1 => if c = true then b s1 Q else Q false s1
def dOr (a b : DB) : DB := fun s Q => a s fun c s1 => if c = true then Q true s1 else b s1 Q
def dNot (a : DB) : DB := fun s Q => a s fun c s1 => Q (!c) s1
theorem simT_and {t u : TT} {a b : DB} (ha : SimT C t a) (hb : SimT C u b) : SimT C (tAnd t u) (dAnd a b) := by
  refine ⟨fun H0 S0 Hs σ H s Q Q' r q k => ha.run H0 S0 Hs σ H s _ _ r q fun Hs1 H1 c s1 g1 r1 q1 => ?_⟩
  cases c with
  | true => exact ifp rfl (hb.run H0 S0 Hs1 σ H1 s1 _ _ r1 (by simpa using q1) fun Hs2 H2 c2 s2 g2 r2 q2 => k Hs2 H2 c2 s2 (g1.trans g2) r2 q2)
  | false => exact ifn Bool.false_ne_true (k Hs1 H1 false s1 g1 r1 (by simpa using q1))
theorem simT_or {t u : TT} {a b : DB} (ha : SimT C t a) (hb : SimT C u b) : SimT C (tOr t u) (dOr a b) := by
  refine ⟨fun H0 S0 Hs σ H s Q Q' r q k => ha.run H0 S0 Hs σ H s _ _ r q fun Hs1 H1 c s1 g1 r1 q1 => ?_⟩
  cases c with
  | false => exact ifn Bool.false_ne_true (hb.run H0 S0 Hs1 σ H1 s1 _ _ r1 (by simpa using q1) fun Hs2 H2 c2 s2 g2 r2 q2 => k Hs2 H2 c2 s2 (g1.trans g2) r2 q2)
  | true => exact ifp rfl (k Hs1 H1 true s1 g1 r1 (by simpa using q1))
theorem simT_not {t : TT} {a : DB} (ha : SimT C t a) : SimT C (tNot t) (dNot a) :=
  ⟨fun H0 S0 Hs σ H s Q Q' r q k => ha.run H0 S0 Hs σ H s _ _ r q fun Hs1 H1 c s1 g1 r1 q1 => k Hs1 H1 (!c) s1 g1 r1 q1⟩
/-- as values -/
def dAndV (a b : DT) : DT := fun s Q => a s fun d s1 => match d with
  | .bool true => b s1 Q
  | .bool false => Q (.bool false) s1
  | _ => False
def dOrV (a b : DT) : DT := fun s Q => a s fun d s1 => match d with
  | .bool true => Q (.bool true) s1
  | .bool false => b s1 Q
  | _ => False
def dNotV (a : DT) : DT := fun s Q => a s fun d s1 => match d with
  | .bool b => Q (.bool (!b)) s1
  | _ => False
theorem sim_andV (ha : Sim C ca ta da) (hb : Sim C cb tb db) : Sim C .E (tAndV ta tb) (dAndV da db) := by
  refine ⟨fun H0 S0 Hs σ H s Q Q' r q k => ha.run H0 S0 Hs σ H s _ _ r q fun Hs1 H1 v d s1 g1 r1 v1 q1 => ?_⟩
  cases d <;> first | exact q1.elim | skip
  rename_i b
  cases v1.bool
  refine ⟨b, rfl, ?_⟩
  cases b with
  | true => exact ifp rfl (hb.toE.run H0 S0 Hs1 σ H1 s1 _ _ r1 q1 fun Hs2 H2 v d s2 g2 r2 v2 q2 => k Hs2 H2 v d s2 (g1.trans g2) r2 v2 q2)
  | false => exact ifn Bool.false_ne_true (k Hs1 H1 _ (.bool false) s1 g1 r1 (Rp.bl _) q1)
theorem sim_orV (ha : Sim C ca ta da) (hb : Sim C cb tb db) : Sim C .E (tOrV ta tb) (dOrV da db) := by
  refine ⟨fun H0 S0 Hs σ H s Q Q' r q k => ha.run H0 S0 Hs σ H s _ _ r q fun Hs1 H1 v d s1 g1 r1 v1 q1 => ?_⟩
  cases d <;> first | exact q1.elim | skip
  rename_i b
  cases v1.bool
  refine ⟨b, rfl, ?_⟩
  cases b with
  | false => exact ifn Bool.false_ne_true (hb.toE.run H0 S0 Hs1 σ H1 s1 _ _ r1 q1 fun Hs2 H2 v d s2 g2 r2 v2 q2 => k Hs2 H2 v d s2 (g1.trans g2) r2 v2 q2)
  | true => exact ifp rfl (k Hs1 H1 _ (.bool true) s1 g1 r1 (Rp.bl _) q1)
theorem sim_notV (ha : Sim C ca ta da) : Sim C .F (tNotV ta) (dNotV da) := by
  refine ⟨fun H0 S0 Hs σ H s Q Q' r q k => ha.run H0 S0 Hs σ H s _ _ r q fun Hs1 H1 v d s1 g1 r1 v1 q1 => ?_⟩
  cases d <;> first | exact q1.elim | skip
  rename_i b
  cases v1.bool
  exact ⟨b, rfl, k Hs1 H1 _ (.bool (!b)) s1 g1 r1 (Val.mkP (Rp.bl _) rfl) q1⟩
def dIf (c : DB) (a b : DT) : DT := fun s Q => c s fun k s1 => if k = true then a s1 Q else b s1 Q
theorem sim_if {tt : TT} {c : DB} {cat : Cat} (hc : SimT C tt c) (ha : Sim C cat ta da) (hb : Sim C cat tb db) : Sim C cat (tIf tt ta tb) (dIf c da db) := by
  refine ⟨fun H0 S0 Hs σ H s Q Q' r q k => hc.run H0 S0 Hs σ H s _ _ r q fun Hs1 H1 c s1 g1 r1 q1 => ?_⟩
  cases c with
  | true => exact ifp rfl (ha.run H0 S0 Hs1 σ H1 s1 _ _ r1 (by simpa using q1) fun Hs2 H2 v d s2 g2 r2 v2 q2 => k Hs2 H2 v d s2 (g1.trans g2) r2 (v2.anew fun a e => g1.back a e) q2)
  | false => exact ifn Bool.false_ne_true (hb.run H0 S0 Hs1 σ H1 s1 _ _ r1 (by simpa using q1) fun Hs2 H2 v d s2 g2 r2 v2 q2 => k Hs2 H2 v d s2 (g1.trans g2) r2 (v2.anew fun a e => g1.back a e) q2)
/-- a < b < c -/
def dChain (f g : DO) (a b c : DT) : DT := fun s Q => a s fun x s1 => b s1 fun y s2 => f x y fun z => match z with
  | .bool true => c s2 fun w s3 => g y w fun z => Q z s3
  | .bool false => Q (.bool false) s2
  | _ => False
theorem sim_chain {r r' : R2} {f g : DO} (hf : OpA C r f) (hg : OpA C r' g) (ha : Sim C ca ta da) (hb : Sim C cb tb db) (hc : Sim C cc tc dc) : Sim C .F (tChain r r' ta tb tc) (dChain f g da db dc) := by
  refine ⟨fun H0 S0 Hs σ H s Q Q' r0 q k => ha.run H0 S0 Hs σ H s _ _ r0 q fun Hs1 H1 x dx s1 g1 r1 v1 q1 => hb.run H0 S0 Hs1 σ H1 s1 _ _ r1 q1 fun Hs2 H2 y dy s2 g2 r2 v2 q2 => ?_⟩
  refine hf H0 S0 Hs2 σ H2 s2 x y dx dy _ _ r2 ((v1.go r1 g2).rd r2.sub) (v2.rd r2.sub) q2 fun Hs3 H3 v d g3 r3 v3 q3 => ?_
  cases d <;> first | exact q3.elim | skip
  rename_i b
  cases v3.bool
  refine ⟨b, rfl, ?_⟩
  have g123 := g1.trans (g2.trans g3)
  cases b with
  | true =>
    refine ifp rfl (hc.run H0 S0 Hs3 σ H3 s2 _ _ r3 q3 fun Hs4 H4 w dw s4 g4 r4 v4 q4 => ?_)
    refine hg H0 S0 Hs4 σ H4 s4 y w dy dw _ _ r4 (((v2.go r2 g3).go r3 g4).rd r4.sub) (v4.rd r4.sub) q4 fun Hs5 H5 v d g5 r5 v5 q5 => ?_
    exact k Hs5 H5 v d s4 (g123.trans (g4.trans g5)) r5 (v5.anew fun a e => (g123.trans g4).back a e) q5
  | false => exact ifn Bool.false_ne_true (k Hs3 H3 _ (.bool false) s2 g123 r3 (Val.mkP (Rp.bl _) rfl) q3)
/-! calls of built-ins -/
abbrev DF := List D → (D → Prop) → Prop
def RdAll (K : PySem.W.Frag) (Hs H : Hp) : List V → List D → Prop
  | [], [] => True
  | v :: vs, d :: ds => Rd' K Hs H v d ∧ RdAll K Hs H vs ds
  | _, _ => False
theorem RpAll.rd {K : PySem.W.Frag} {Hs H : Hp} (sub : Same Hs H) : ∀ {vs : List V} {ds : List D}, RpAll K Hs vs ds → RdAll K Hs H vs ds
  | _, _, .nil => True.intro
  | _, _, .cons a b => ⟨a.rd sub, RpAll.rd sub b⟩
def CaA (C : Cf) (r : List V → Hp → VK → Prop) (f : DF) : Prop := ∀ (H0 S0 Hs : Hp) (σ : L2.St) (H : Hp) (s : S) (vs : List V) (ds : List D) (Q : D → Prop) (Q' : VK), R C H0 S0 Hs σ H s → RdAll C.K Hs H vs ds → f ds Q →
  (∀ Hs' H' v d, Go C σ Hs H Hs' H' → R C H0 S0 Hs' σ H' s → Val C H0 H Hs' σ H' .F v d → Q d → Q' v H') → r vs H Q'
def dCB (f : DF) (a : DA) : DT := fun s Q => a s fun ds s1 => f ds fun z => Q z s1
theorem sim_cb {n : Nat} {r : List V → Hp → VK → Prop} {f : DF} {t : TA} {a : DA} (hf : CaA C r f) (h : SimA C n t a) : Sim C .F (tCB r t) (dCB f a) := by
  refine ⟨fun H0 S0 Hs σ H s Q Q' r0 q k => h.run H0 S0 Hs σ H s _ _ r0 q fun Hs1 H1 vs ds s1 g1 r1 v1 _ q1 => ?_⟩
  exact hf H0 S0 Hs1 σ H1 s1 vs ds _ _ r1 (v1.rd r1.sub) q1 fun Hs2 H2 v d g2 r2 v2 q2 => k Hs2 H2 v d s1 (g1.trans g2) r2 (v2.anew fun a e => g1.back a e) q2
/-- of one list of the def's own -/
def dCBM (f : DF) (i : Nat) : DT := fun s Q => match s.δ[i]? with
  | some (some d) => f [d] fun z => Q z s
  | _ => False
theorem sim_cbM {r : List V → Hp → VK → Prop} {f : DF} (i : Nat) (hi : i ∈ C.M) (hf : CaA C r f) : Sim C .F (tCB r (tCons (tVar i) tNil)) (dCBM f i) := by
  refine ⟨fun H0 S0 Hs σ H s Q Q' r0 q k => ?_⟩
  unfold dCBM at q
  split at q
  · rename_i d e
    obtain ⟨v, e1, rd⟩ := r0.rdM hi e
    exact ⟨v, e1, hf H0 S0 Hs σ H s [v] [d] _ _ r0 ⟨rd, True.intro⟩ q fun Hs2 H2 v d g2 r2 v2 q2 => k Hs2 H2 v d s g2 r2 v2 q2⟩
  · exact q.elim
def lenD : DF := fun ds Q => match ds with
  | [d] => (match d with
    | .list xs => Q (.int xs.length)
    | .tuple xs => Q (.int xs.length)
    | .str x => x.length ≤ sizeLine ∧ Q (.int x.length)
    | _ => False)
  | _ => False
def rLenG (K : PySem.W.Frag) : List V → Hp → VK → Prop := fun xs H Q => rLenQ K xs H Q ∨ ∃ z, xs = [.str z] ∧ z.length ≤ sizeLine ∧ Q (.int z.length) H
theorem CallR.or {X : Cx} {f : Value} {r r' : List V → Hp → VK → Prop} (h : CallR X f r) (h' : CallR X f r') : CallR X f (fun xs H Q => r xs H Q ∨ r' xs H Q) := by
  intro pins s σ H xs us Q I rv q
  rcases q with q | q
  · exact h pins s σ H xs us Q I rv q
  · exact h' pins s σ H xs us Q I rv q
theorem lenG {X : Cx} (K : PySem.W.Frag) (eK : X.K = K) : CallR X (.builtin "len") (rLenG K) := CallR.or (lenQ K eK) call_len_str
theorem caA_len : CaA C (rLenG C.K) lenD := by
  intro H0 S0 Hs σ H s vs ds Q Q' r hd q k
  match vs, ds, hd with
  | [v], [d], ⟨h, _⟩ =>
    cases d <;> first | exact q.elim | skip
    case list xs =>
      obtain ⟨a, ys, rfl, e1, e2⟩ := Rd'.list h
      exact .inl ⟨a, ys, rfl, .inl (SqL.of e1), k Hs H _ (.int (xs.length : Nat)) Go.refl r (Val.mkP (by rw [e2.len]; exact Rp.int _) rfl) q⟩
    case tuple xs =>
      cases h with
      | @tup a ys _ e1 e2 => exact .inl ⟨a, ys, rfl, .inr (Same.sqT r.sub e1), k Hs H _ (.int (xs.length : Nat)) Go.refl r (Val.mkP (by rw [e2.len]; exact Rp.int _) rfl) q⟩
    case str x =>
      cases h
      exact .inr ⟨x, rfl, q.1, k Hs H _ (.int (x.length : Nat)) Go.refl r (Val.mkP (Rp.int _) rfl) q.2⟩
  | [], [], _ => exact q.elim
  | _ :: _ :: _, _ :: _ :: _, _ => exact q.elim
def listD : DF := fun ds Q => match ds with
  | [d] => (match d with
    | .list xs => Q (.list xs)
    | .tuple xs => Q (.list xs)
    | _ => False)
  | _ => False
theorem caA_list : CaA C (rListQ C.K) listD := by
  intro H0 S0 Hs σ H s vs ds Q Q' r hd q k
  match vs, ds, hd with
  | [v], [d], ⟨h, _⟩ =>
    cases d <;> first | exact q.elim | skip
    case list xs =>
      obtain ⟨a, ys, rfl, e1, e2⟩ := Rd'.list h
      exact ⟨a, ys, rfl, .inl (SqL.of e1), fun p np => k Hs _ _ (.list xs) (Go.laid np) (r.laid np) (r.newList np e2) q⟩
    case tuple xs =>
      cases h with
      | @tup a ys _ e1 e2 => exact ⟨a, ys, rfl, .inr (Same.sqT r.sub e1), fun p np => k Hs _ _ (.list xs) (Go.laid np) (r.laid np) (r.newList np e2) q⟩
  | [], [], _ => exact q.elim
  | _ :: _ :: _, _ :: _ :: _, _ => exact q.elim
def tupD : DF := fun ds Q => match ds with
  | [d] => (match d with
    | .list xs => Q (.tuple xs)
    | .tuple xs => Q (.tuple xs)
    | _ => False)
  | _ => False
theorem caA_tup : CaA C (rTupQ C.K) tupD := by
  intro H0 S0 Hs σ H s vs ds Q Q' r hd q k
  match vs, ds, hd with
  | [v], [d], ⟨h, _⟩ =>
    cases d <;> first | exact q.elim | skip
    case list xs =>
      obtain ⟨a, ys, rfl, e1, e2⟩ := Rd'.list h
      refine ⟨a, ys, rfl, .inl ⟨SqL.of e1, fun p np => ?_⟩⟩
      obtain ⟨r', g'⟩ := r.newTup (o := .tup ys) np
      exact k _ _ _ (.tuple xs) g' r' (Val.mkP (Rp.tup (SqT.of upd_same) (RpAll.mono g'.st e2)) rfl) q
    case tuple xs =>
      cases h with
      | @tup a ys _ e1 e2 => exact ⟨a, ys, rfl, .inr ⟨Same.sqT r.sub e1, k Hs H _ (.tuple xs) Go.refl r (Val.mkP (Rp.tup e1 e2) rfl) q⟩⟩
  | [], [], _ => exact q.elim
  | _ :: _ :: _, _ :: _ :: _, _ => exact q.elim
def strD : DF := fun ds Q => match ds with
  | [d] => (match d with
    | .int i => i.natAbs.log2 < 1920 ∧ Q (.str (toString i))
    | _ => False)
  | _ => False
theorem caA_str : CaA C (fun xs H Q => ∃ i, xs = [.int i] ∧ i.natAbs.log2 < 1920 ∧ Q (.str (toString i)) H) strD := by
  intro H0 S0 Hs σ H s vs ds Q Q' r hd q k
  match vs, ds, hd with
  | [v], [d], ⟨h, _⟩ =>
    cases d <;> first | exact q.elim | skip
    cases h
    exact ⟨_, rfl, q.1, k Hs H _ (.str _) Go.refl r (Val.mkP (Rp.str _) rfl) q.2⟩
  | [], [], _ => exact q.elim
  | _ :: _ :: _, _ :: _ :: _, _ => exact q.elim
def intD : DF := fun ds Q => match ds with
  | [d] => (match d with
    | .int i => Q (.int i)
    | .bool b => Q (.int (if b then 1 else 0))
    | _ => False)
  | _ => False
theorem caA_int : CaA C (fun xs H Q => (∃ i, xs = [.int i] ∧ Q (.int i) H) ∨ ∃ k, xs = [.bl k] ∧ Q (.int (if k then 1 else 0)) H) intD := by
  intro H0 S0 Hs σ H s vs ds Q Q' r hd q k
  match vs, ds, hd with
  | [v], [d], ⟨h, _⟩ =>
    cases d <;> first | exact q.elim | skip
    case int i => cases h; exact .inl ⟨i, rfl, k Hs H _ (.int i) Go.refl r (Val.mkP (Rp.int _) rfl) q⟩
    case bool b => cases h; exact .inr ⟨b, rfl, k Hs H _ (.int _) Go.refl r (Val.mkP (Rp.int _) rfl) q⟩
  | [], [], _ => exact q.elim
  | _ :: _ :: _, _ :: _ :: _, _ => exact q.elim
def minD : DF := fun ds Q => match ds with
  | [d, e] => (match d, e with
    | .int i, .int j => Q (.int (if j < i then j else i))
    | _, _ => False)
  | _ => False
def maxD : DF := fun ds Q => match ds with
  | [d, e] => (match d, e with
    | .int i, .int j => Q (.int (if j > i then j else i))
    | _, _ => False)
  | _ => False
theorem caA_min : CaA C (fun xs H Q => ∃ i j, xs = [.int i, .int j] ∧ Q (.int (if j < i then j else i)) H) minD := by
  intro H0 S0 Hs σ H s vs ds Q Q' r hd q k
  match vs, ds, hd with
  | [v, w], [d, e], ⟨h, h', _⟩ =>
    cases d <;> cases e <;> first | exact q.elim | skip
    cases h; cases h'
    exact ⟨_, _, rfl, k Hs H _ (.int _) Go.refl r (Val.mkP (Rp.int _) rfl) q⟩
  | [], [], _ => exact q.elim
  | [_], [_], _ => exact q.elim
  | _ :: _ :: _ :: _, _ :: _ :: _ :: _, _ => exact q.elim
theorem caA_max : CaA C (fun xs H Q => ∃ i j, xs = [.int i, .int j] ∧ Q (.int (if j > i then j else i)) H) maxD := by
  intro H0 S0 Hs σ H s vs ds Q Q' r hd q k
  match vs, ds, hd with
  | [v, w], [d, e], ⟨h, h', _⟩ =>
    cases d <;> cases e <;> first | exact q.elim | skip
    cases h; cases h'
    exact ⟨_, _, rfl, k Hs H _ (.int _) Go.refl r (Val.mkP (Rp.int _) rfl) q⟩
  | [], [], _ => exact q.elim
  | [_], [_], _ => exact q.elim
  | _ :: _ :: _ :: _, _ :: _ :: _ :: _, _ => exact q.elim
/-- lists of ints, of truths -/
def intsOf : List D → Option (List Int)
  | [] => some []
  | .int i :: r => (intsOf r).map (i :: ·)
  | _ :: _ => none
def boolsOf : List D → Option (List Bool)
  | [] => some []
  | .bool i :: r => (boolsOf r).map (i :: ·)
  | _ :: _ => none
theorem ints_rp {K : PySem.W.Frag} {H : Hp} : ∀ {xs : List V} {ds : List D} {ns : List Int}, RpAll K H xs ds → intsOf ds = some ns → xs = ns.map V.int
  | _, _, _, .nil, e => by cases e; rfl
  | _, _, _, .cons (d := d) (ds := ds) a b, e => by
    cases d <;> first | (exfalso; have e' : (none : Option (List Int)) = some _ := e; cases e'; done) | skip
    cases a
    simp only [intsOf, Option.map_eq_some_iff] at e
    obtain ⟨ms, e1, rfl⟩ := e
    rw [ints_rp b e1]
    rfl
theorem bools_rp {K : PySem.W.Frag} {H : Hp} : ∀ {xs : List V} {ds : List D} {ns : List Bool}, RpAll K H xs ds → boolsOf ds = some ns → xs = ns.map V.bl
  | _, _, _, .nil, e => by cases e; rfl
  | _, _, _, .cons (d := d) (ds := ds) a b, e => by
    cases d <;> first | (exfalso; have e' : (none : Option (List Bool)) = some _ := e; cases e'; done) | skip
    cases a
    simp only [boolsOf, Option.map_eq_some_iff] at e
    obtain ⟨ms, e1, rfl⟩ := e
    rw [bools_rp b e1]
    rfl
def sumD : DF := fun ds Q => match ds with
  | [d] => (match d with
    | .list xs => ∃ ns, intsOf xs = some ns ∧ Q (.int ns.sum)
    | _ => False)
  | _ => False
def allD : DF := fun ds Q => match ds with
  | [d] => (match d with
    | .list xs => ∃ ns, boolsOf xs = some ns ∧ Q (.bool (ns.all id))
    | _ => False)
  | _ => False
def anyD : DF := fun ds Q => match ds with
  | [d] => (match d with
    | .list xs => ∃ ns, boolsOf xs = some ns ∧ Q (.bool (ns.any id))
    | _ => False)
  | _ => False
theorem caA_sum : CaA C (rSum C.K) sumD := by
  intro H0 S0 Hs σ H s vs ds Q Q' r hd q k
  match vs, ds, hd with
  | [v], [d], ⟨h, _⟩ =>
    cases d <;> first | exact q.elim | skip
    obtain ⟨a, ys, rfl, e1, e2⟩ := Rd'.list h
    obtain ⟨ns, e3, q⟩ := q
    rw [ints_rp e2 e3] at e1
    exact ⟨a, ns, rfl, SqL.of e1, k Hs H _ (.int _) Go.refl r (Val.mkP (Rp.int _) rfl) q⟩
  | [], [], _ => exact q.elim
  | _ :: _ :: _, _ :: _ :: _, _ => exact q.elim
theorem caA_all : CaA C (rAll C.K) allD := by
  intro H0 S0 Hs σ H s vs ds Q Q' r hd q k
  match vs, ds, hd with
  | [v], [d], ⟨h, _⟩ =>
    cases d <;> first | exact q.elim | skip
    obtain ⟨a, ys, rfl, e1, e2⟩ := Rd'.list h
    obtain ⟨ns, e3, q⟩ := q
    rw [bools_rp e2 e3] at e1
    exact ⟨a, ns, rfl, SqL.of e1, k Hs H _ (.bool _) Go.refl r (Val.mkP (Rp.bl _) rfl) q⟩
  | [], [], _ => exact q.elim
  | _ :: _ :: _, _ :: _ :: _, _ => exact q.elim
theorem caA_any : CaA C (rAny C.K) anyD := by
  intro H0 S0 Hs σ H s vs ds Q Q' r hd q k
  match vs, ds, hd with
  | [v], [d], ⟨h, _⟩ =>
    cases d <;> first | exact q.elim | skip
    obtain ⟨a, ys, rfl, e1, e2⟩ := Rd'.list h
    obtain ⟨ns, e3, q⟩ := q
    rw [bools_rp e2 e3] at e1
    exact ⟨a, ns, rfl, SqL.of e1, k Hs H _ (.bool _) Go.refl r (Val.mkP (Rp.bl _) rfl) q⟩
  | [], [], _ => exact q.elim
  | _ :: _ :: _, _ :: _ :: _, _ => exact q.elim
/-! isinstance -/
theorem tyD_rd {K : PySem.W.Frag} {Hs H : Hp} {x : V} {d : D} (h : Rd' K Hs H x d) (sub : Same Hs H) : TyX K H x (.type (tyD d)) := by
  cases d with
  | list ds => obtain ⟨a, xs, rfl, e, _⟩ := Rd'.list h; exact .base (.lst e)
  | none => cases h; exact .base .non
  | bool b => cases h; exact .base (.bl b)
  | int b => cases h; exact .base (.int b)
  | str b => cases h; exact .base (.str b)
  | tuple b => cases h with | tup q a => exact tyX_tup (Same.sqT sub q)
  | dict b => obtain ⟨a, xs, rfl, e, _⟩ := Rd'.dict h; exact .base (.dK e)
def dIsi (c : Cl) (a : DT) : DT := fun s Q => a s fun d s1 => Q (.bool (isB c d)) s1
theorem sim_isi (c : Cl) (h : Sim C ca te t) : Sim C .F (tCB (rIsi C.K) (tCons te (tCons (tC (.ty c.name)) tNil))) (dIsi c t) := by
  refine ⟨fun H0 S0 Hs σ H s Q Q' r q k => h.run H0 S0 Hs σ H s _ _ r q fun Hs1 H1 v d s1 g1 r1 v1 q1 => ?_⟩
  exact ⟨v, _, _, _, _, rfl, .ty _, tyD_rd (v1.rd r1.sub) r1.sub, kit_ty (kitB_nn c d), k Hs1 H1 _ (.bool _) s1 g1 r1 (Val.mkP (Rp.bl _) rfl) q1⟩
def dIsiM (c : Cl) (i : Nat) : DT := fun s Q => match s.δ[i]? with
  | some (some d) => Q (.bool (isB c d)) s
  | _ => False
theorem sim_isiM (c : Cl) (i : Nat) (hi : i ∈ C.M) : Sim C .F (tCB (rIsi C.K) (tCons (tVar i) (tCons (tC (.ty c.name)) tNil))) (dIsiM c i) := by
  refine ⟨fun H0 S0 Hs σ H s Q Q' r q k => ?_⟩
  unfold dIsiM at q
  split at q
  · rename_i d e
    obtain ⟨v, e1, rd⟩ := r.rdM hi e
    exact ⟨v, e1, v, _, _, _, _, rfl, .ty _, tyD_rd rd r.sub, kit_ty (kitB_nn c d), k Hs H _ (.bool _) s Go.refl r (Val.mkP (Rp.bl _) rfl) q⟩
  · exact q.elim
def isAny (cs : List Cl) (d : D) : Bool := cs.any fun c => isB c d
theorem kitAny_of {K : PySem.W.Frag} (d : D) : ∀ cs : List Cl, cs ≠ [] → PySem.W.kitAny K (.type (tyD d)) (cs.map fun c => Value.type c.name) = some (isAny cs d)
  | [], h => absurd rfl h
  | [c], _ => by
    refine kitAny_cons (kit_ty (kitB_nn c d)) (fun e => ?_) (fun e => ?_)
    · unfold isAny; rw [List.any_cons, e]; rfl
    · unfold isAny; rw [List.any_cons, e]; rfl
  | c :: c' :: cs, _ => by
    refine kitAny_cons (kit_ty (kitB_nn c d)) (fun e => ?_) (fun e => ?_)
    · unfold isAny; rw [List.any_cons, e, Bool.false_or]; exact kitAny_of d (c' :: cs) (by simp)
    · unfold isAny; rw [List.any_cons, e]; rfl
def dIsiT (cs : List Cl) (a : DT) : DT := fun s Q => a s fun d s1 => Q (.bool (isAny cs d)) s1
theorem clsV_all : ∀ cs : List Cl, Paired ClsV (cs.map fun c => V.ty c.name) (cs.map fun c => Value.type c.name)
  | [] => .nil
  | c :: cs => .cons (.ty _) (clsV_all cs)
theorem sim_isiT2 (c1 c2 : Cl) (h : Sim C ca te t) : Sim C .F (tCB (rIsiT C.K) (tCons te (tCons (tTup (tCons (tC (.ty c1.name)) (tCons (tC (.ty c2.name)) tNil))) tNil))) (dIsiT [c1, c2] t) := by
  refine ⟨fun H0 S0 Hs σ H s Q Q' r q k => h.run H0 S0 Hs σ H s _ _ r q fun Hs1 H1 v d s1 g1 r1 v1 q1 => ?_⟩
  refine ⟨by show 2 ≤ sizeLine; decide, fun p np => ?_⟩
  have r2 := r1.laid (o := .tup [.ty c1.name, .ty c2.name]) np
  have g2 : Go C σ Hs1 H1 Hs1 (upd H1 p (.tup [.ty c1.name, .ty c2.name])) := Go.laid np
  exact ⟨v, p, _, _, _, _, rfl, upd_same, clsV_all [c1, c2], tyD_rd ((v1.go r1 g2).rd r2.sub) r2.sub, kitAny_of d [c1, c2] (by simp), k Hs1 _ _ (.bool _) s1 (g1.trans g2) r2 (Val.mkP (Rp.bl _) rfl) q1⟩
end

/-! ### calls of defs -/
/-- a result: E it lies in the still part; F a list is new and outside of it -/
def RV (K : PySem.W.Frag) (H0 Hs H : Hp) : Cat → V → D → Prop
  | .E, v, d => Rp K Hs v d
  | .F, v, d => if isC d = true then ∃ a o, v = .ref a ∧ H a = some o ∧ Hs a = none ∧ H0 a = none ∧ Cn K Hs o d else Rp K Hs v d
def spN (K : PySem.W.Frag) (n : Nat) (cat : Cat) (F : DF) : Sp := fun vs H Q _ => ∃ Hs ds Q0, Same Hs H ∧ RpAll K Hs vs ds ∧ ds.length = n ∧ F ds Q0 ∧
  ∀ d Hs' H' v, Q0 d → Same Hs Hs' → Same Hs' H' → Same H H' → (∀ b, Hs b = none → Hs' b ≠ none → H b = none) → RV K H Hs' H' cat v d → Q v H'
abbrev DFP := List D → Nat → (D → Nat → Prop) → Prop
def spP (K : PySem.W.Frag) (n : Nat) (cat : Cat) (F : DFP) : Sp := fun vs H Q _ => ∃ Hs p c k vs' ds Q0, vs = .ref p :: vs' ∧ Pen H p c k ∧ Hs p = none ∧ Same Hs H ∧ RpAll K Hs vs' ds ∧ ds.length = n ∧ F ds k Q0 ∧
  ∀ d k' Hs' H' v, Q0 d k' → Same Hs Hs' → Same Hs' H' → But p H H' → (∀ b, Hs b = none → Hs' b ≠ none → H b = none) → Hs' p = none → Pen H' p c k' → RV K H Hs' H' cat v d → Q v H'
section
variable {C : Cf} {σ : L2.St} {H0 S0 Hs H Hs' H' : Hp} {s : S}
theorem none_of_new {b : Addr} {o : HO} (nw : ∀ b, Hs b = none → Hs' b ≠ none → H b = none) (h : Hs b = none) (e : H b = some o) : Hs' b = none := by
  cases q : Hs' b with
  | none => rfl
  | some x =>
    have := nw b h (by rw [q]; exact fun z => nomatch z)
    rw [e] at this; cases this
theorem R.step (r : R C H0 S0 Hs σ H s) (st : Same Hs Hs') (sb : Same Hs' H') (hh : Same H H') (nw : ∀ b, Hs b = none → Hs' b ≠ none → H b = none) : R C H0 S0 Hs' σ H' s ∧ Go C σ Hs H Hs' H' := by
  refine ⟨⟨r.len, sb, fun i d e m => ?_, fun i d e m => ?_, r.dead, r.sep, fun p c e => ?_, r.br, r.s0.trans st, fun b o n e => hh _ _ (r.h0 b o n e), fun b e1 e2 => ?_⟩, st, fun b o e _ _ => hh _ _ e, fun b o e => ⟨o, hh _ _ e⟩, nw⟩
  · obtain ⟨v, e1, e2⟩ := r.slot i d e m
    exact ⟨v, e1, Rp.mono st e2⟩
  · obtain ⟨a, u, e2, e3, e4, e5, e6⟩ := r.mt i d e m
    exact ⟨a, u, e2, hh _ _ e3, none_of_new nw e4 e3, e5.mono st, e6⟩
  · obtain ⟨e1, e2, e3, e4⟩ := r.pn p c e
    obtain ⟨_, _, e5, _⟩ := e2.pen
    exact ⟨e1, e2.same hh, none_of_new nw e3 e5, e4⟩
  · cases q : Hs b with
    | some o => exact r.new b e1 (by rw [q]; exact fun z => nomatch z)
    | none => exact (r.free0 (nw b q e2)).1
theorem R.stepP {p c : Addr} {k : Nat} (r : R C H0 S0 Hs σ H s) (hp : C.pen = some (p, c)) (st : Same Hs Hs') (sb : Same Hs' H') (hh : But p H H') (nw : ∀ b, Hs b = none → Hs' b ≠ none → H b = none) (np : Hs' p = none) (pe : Pen H' p c k) :
    R C H0 S0 Hs' σ H' { s with n := k } ∧ Go C σ Hs H Hs' H' := by
  have ip : ∀ b, ¬ IsPen C b → b ≠ p := fun b h e => h (.inl ⟨c, by rw [e]; exact hp⟩)
  refine ⟨⟨r.len, sb, fun i d e m => ?_, fun i d e m => ?_, r.dead, r.sep, fun p' c' e => ?_, r.br, r.s0.trans st, fun b o n e => hh _ _ (ip b n) (r.h0 b o n e), fun b e1 e2 => ?_⟩, st, fun b o e _ n => hh _ _ (ip b n) e, fun b o e => ?_, nw⟩
  · obtain ⟨v, e1, e2⟩ := r.slot i d e m
    exact ⟨v, e1, Rp.mono st e2⟩
  · obtain ⟨a, u, e2, e3, e4, e5, e6⟩ := r.mt i d e m
    have nap : a ≠ p := fun z => by
      subst z
      rcases e6 with e6 | e6
      · exact (r.pn a c hp).2.2.2.1 e6
      · exact (r.pn a c hp).2.2.2.2.2.2.2.1 e6
    exact ⟨a, u, e2, hh _ _ nap e3, none_of_new nw e4 e3, e5.mono st, e6⟩
  · rw [hp] at e
    cases e
    obtain ⟨e1, e2, e3, e4⟩ := r.pn p c hp
    exact ⟨e1, pe, np, e4⟩
  · cases q : Hs b with
    | some o => exact r.new b e1 (by rw [q]; exact fun z => nomatch z)
    | none => exact (r.free0 (nw b q e2)).1
  · by_cases z : b = p
    · subst z
      obtain ⟨_, _, e5, _⟩ := pe.pen
      exact ⟨_, e5⟩
    · exact ⟨o, hh _ _ z e⟩
theorem RV.val {cat : Cat} {v : V} {d : D} (h : RV C.K H Hs' H' cat v d) (r : R C H0 S0 Hs σ H s) : Val C H0 H Hs' σ H' cat v d := by
  cases cat with
  | E => exact h
  | F =>
    have h : (if isC d = true then ∃ a o, v = .ref a ∧ H' a = some o ∧ Hs' a = none ∧ H a = none ∧ Cn C.K Hs' o d else Rp C.K Hs' v d) := h
    cases e : isC d with
    | true =>
      rw [if_pos e] at h
      obtain ⟨a, o, rfl, e1, e2, e3, e4⟩ := h
      obtain ⟨f1, f2, f3, _⟩ := r.free0 e3
      exact Val.mkC ⟨o, e1, e2, f1, e3, e4, f3⟩
    | false =>
      rw [if_neg (by rw [e]; exact Bool.false_ne_true)] at h
      exact Val.mkP h e
def dCall (F : DF) (a : DA) : DT := fun s Q => a s fun ds s1 => F ds fun d => Q d s1
theorem sim_call {n : Nat} {cat : Cat} {F : DF} {ta : TA} {a : DA} (h : SimA C n ta a) : Sim C cat (tCall (spN C.K n cat F) [] E0 ta) (dCall F a) := by
  refine ⟨fun H0 S0 Hs σ H s Q Q' r q k => h.run H0 S0 Hs σ H s _ _ r q fun Hs1 H1 vs ds s1 g1 r1 v1 l1 q1 => ?_⟩
  rw [List.append_nil]
  refine ⟨Hs1, ds, _, r1.sub, v1, l1, q1, fun d Hs' H' v q2 st sb hh nw rv => ?_⟩
  obtain ⟨r2, g2⟩ := r1.step st sb hh nw
  exact k Hs' H' v d s1 (g1.trans g2) r2 ((rv.val r1).anew fun a e => g1.back a e) q2
def dCallP (F : DFP) (a : DA) : DT := fun s Q => a s fun ds s1 => F ds s1.n fun d k => Q d { s1 with n := k }
theorem sim_callP {n : Nat} {cat : Cat} {F : DFP} {ta : TA} {a : DA} {i : Nat} (hp : C.pen ≠ none) (hi : C.ps = i) (h : SimA C n ta a) : Sim C cat (tCall (spP C.K n cat F) [] E0 (tCons (tVar i) ta)) (dCallP F a) := by
  refine ⟨fun H0 S0 Hs σ H s Q Q' r q k => ?_⟩
  obtain ⟨⟨p, c⟩, ep⟩ : ∃ pc, C.pen = some pc := by
    cases e : C.pen with
    | none => exact absurd e hp
    | some pc => exact ⟨pc, rfl⟩
  subst hi
  refine ⟨.ref p, (r.pn p c ep).1, h.run H0 S0 Hs σ H s _ _ r q fun Hs1 H1 vs ds s1 g1 r1 v1 l1 q1 => ?_⟩
  show spP C.K n cat F ((V.ref p :: vs) ++ []) H1 Q' E0
  rw [List.append_nil]
  obtain ⟨e1, e2, e3, e4⟩ := r1.pn p c ep
  refine ⟨Hs1, p, c, s1.n, vs, ds, _, rfl, e2, e3, r1.sub, v1, l1, q1, fun d k' Hs' H' v q2 st sb hh nw np pe rv => ?_⟩
  obtain ⟨r2, g2⟩ := r1.stepP ep st sb hh nw np pe
  exact k Hs' H' v d _ (g1.trans g2) r2 ((rv.val r1).anew fun a e => g1.back a e) q2
end
/-! ### slices -/
def rSlG (K : PySem.W.Frag) : V → Option Int → Option Int → Hp → VK → Prop := fun x lo hi H Q => rSlL K x lo hi H Q ∨ rSlA K x lo hi H Q ∨ rSlS x lo hi H Q
theorem SlR.or {X : Cx} {r r' : V → Option Int → Option Int → Hp → VK → Prop} (h : SlR X r) (h' : SlR X r') : SlR X (fun x lo hi H Q => r x lo hi H Q ∨ r' x lo hi H Q) := by
  intro pins s σ H x v vl vu lo hi sl Q I rx hs pl pu q
  rcases q with q | q
  · exact h pins s σ H x v vl vu lo hi sl Q I rx hs pl pu q
  · exact h' pins s σ H x v vl vu lo hi sl Q I rx hs pl pu q
theorem slG {X : Cx} (K : PySem.W.Frag) (eK : X.K = K) : SlR X (rSlG K) := by
  subst eK
  exact SlR.or sl_list (SlR.or sl_tupA sl_str)
abbrev DOp := S → (Option Int → S → Prop) → Prop
structure SimO (C : Cf) (t : L2.St → Hp → (Option Int → Hp → Prop) → Prop) (d : DOp) : Prop where
  run : ∀ (H0 S0 Hs : Hp) (σ : L2.St) (H : Hp) (s : S) (Q : Option Int → S → Prop) (Q' : Option Int → Hp → Prop), R C H0 S0 Hs σ H s → d s Q →
    (∀ Hs' H' o s', Go C σ Hs H Hs' H' → R C H0 S0 Hs' σ H' s' → Q o s' → Q' o H') → t σ H Q'
def cutD (xs : List D) (lo hi : Option Int) : List D := (xs.drop (HT.sIx xs.length 0 lo)).take (HT.sIx xs.length xs.length hi - HT.sIx xs.length 0 lo)
def slD (x : D) (lo hi : Option Int) (Q : D → Prop) : Prop := match x with
  | .list ds => Q (.list (cutD ds lo hi))
  | .tuple ds => Q (.tuple (cutD ds lo hi))
  | .str z => z.length ≤ sizeLine ∧ Q (.str (cutS z lo hi))
  | _ => False
section
variable {C : Cf} {te ta tb : TE} {t da db : DT} {ca cb : Cat}
def dNoPart : DOp := fun s Q => Q none s
def dPart (a : DT) : DOp := fun s Q => a s fun d s1 => match d with
  | .int i => Q (some i) s1
  | _ => False
theorem simO_none : SimO C tNoPart dNoPart := ⟨fun H0 S0 Hs σ H s Q Q' r q k => k Hs H none s Go.refl r q⟩
theorem Val.int' {H0 Hst Hs : Hp} {σ : L2.St} {H : Hp} {v : V} {b : Int} {cat : Cat} (h : Val C H0 Hst Hs σ H cat v (.int b)) : v = .int b := by
  cases cat with
  | E => cases (show Rp C.K Hs v (.int b) from h); rfl
  | F => cases h.p rfl; rfl
theorem simO_some (h : Sim C ca te t) : SimO C (tPart te) (dPart t) := by
  refine ⟨fun H0 S0 Hs σ H s Q Q' r q k => h.run H0 S0 Hs σ H s _ _ r q fun Hs1 H1 v d s1 g1 r1 v1 q1 => ?_⟩
  cases d <;> first | exact q1.elim | skip
  rename_i b
  cases v1.int'
  exact ⟨b, rfl, k Hs1 H1 _ s1 g1 r1 q1⟩
theorem RpAll.cut {K : PySem.W.Frag} {H : Hp} {xs : List V} {ds : List D} (h : RpAll K H xs ds) (lo hi : Option Int) : RpAll K H (cutV xs lo hi) (cutD ds lo hi) := by
  unfold cutV cutD
  rw [h.len]
  exact (h.drop _).take _
theorem sl_run {H0 S0 Hs : Hp} {σ : L2.St} {H : Hp} {s : S} {x : V} {dx : D} {lo hi : Option Int} {Q : D → Prop} {Q' : VK} (r : R C H0 S0 Hs σ H s) (hx : Rd' C.K Hs H x dx) (q : slD dx lo hi Q)
    (k : ∀ Hs' H' v d, Go C σ Hs H Hs' H' → R C H0 S0 Hs' σ H' s → Val C H0 H Hs' σ H' .F v d → Q d → Q' v H') : rSlG C.K x lo hi H Q' := by
  cases dx <;> first | exact q.elim | skip
  case list ds =>
    obtain ⟨a, xs, rfl, e1, e2⟩ := Rd'.list hx
    exact .inl ⟨a, xs, rfl, SqL.of e1, fun p np => k Hs _ _ (.list (cutD ds lo hi)) (Go.laid np) (r.laid np) (r.newList np (e2.cut lo hi)) q⟩
  case tuple ds =>
    cases hx with
    | @tup a xs _ e1 e2 =>
    refine .inr (.inl ⟨a, xs, rfl, Same.sqT r.sub e1, fun z => ?_, fun z p np => ?_⟩)
    · refine k Hs H _ (.tuple (cutD ds lo hi)) Go.refl r (Val.mkP ?_ rfl) q
      have : cutD ds lo hi = ds := by
        unfold cutD
        rw [← e2.len, z.1, z.2, List.drop_zero, Nat.sub_zero, e2.len, List.take_length]
      rw [this]
      exact Rp.tup e1 e2
    · obtain ⟨r', g'⟩ := r.newTup (o := .tup (cutV xs lo hi)) np
      exact k _ _ _ (.tuple (cutD ds lo hi)) g' r' (Val.mkP (Rp.tup (SqT.of upd_same) (RpAll.mono g'.st (e2.cut lo hi))) rfl) q
  case str z =>
    cases hx
    exact .inr (.inr ⟨z, rfl, q.1, k Hs H _ (.str (cutS z lo hi)) Go.refl r (Val.mkP (Rp.str _) rfl) q.2⟩)
def dSl (a : DT) (l h : DOp) : DT := fun s Q => a s fun x s1 => l s1 fun lo s2 => h s2 fun hi s3 => slD x lo hi fun z => Q z s3
theorem sim_sl {tl th : L2.St → Hp → (Option Int → Hp → Prop) → Prop} {l h : DOp} (ha : Sim C ca ta da) (hl : SimO C tl l) (hh : SimO C th h) : Sim C .F (tSl (rSlG C.K) ta tl th) (dSl da l h) := by
  refine ⟨fun H0 S0 Hs σ H s Q Q' r q k => ha.run H0 S0 Hs σ H s _ _ r q fun Hs1 H1 x dx s1 g1 r1 v1 q1 => hl.run H0 S0 Hs1 σ H1 s1 _ _ r1 q1 fun Hs2 H2 lo s2 g2 r2 q2 => hh.run H0 S0 Hs2 σ H2 s2 _ _ r2 q2 fun Hs3 H3 hi s3 g3 r3 q3 => ?_⟩
  refine sl_run r3 (((v1.go r1 g2).go r2 g3).rd r3.sub) q3 fun Hs4 H4 v d g4 r4 v4 q4 => ?_
  exact k Hs4 H4 v d s3 (g1.trans (g2.trans (g3.trans g4))) r4 (v4.anew fun a e => (g1.trans (g2.trans g3)).back a e) q4
def dSlM (i : Nat) (l h : DOp) : DT := fun s Q => (∃ d, s.δ[i]? = some (some d)) ∧ l s fun lo s2 => h s2 fun hi s3 => match s3.δ[i]? with
  | some (some x) => slD x lo hi fun z => Q z s3
  | _ => False
theorem sim_slM {tl th : L2.St → Hp → (Option Int → Hp → Prop) → Prop} {l h : DOp} (i : Nat) (hi : i ∈ C.M) (hl : SimO C tl l) (hh : SimO C th h) : Sim C .F (tSl (rSlG C.K) (tVar i) tl th) (dSlM i l h) := by
  refine ⟨fun H0 S0 Hs σ H s Q Q' r q k => ?_⟩
  obtain ⟨⟨d, e⟩, q⟩ := q
  obtain ⟨v, e1, _⟩ := r.rdM hi e
  refine ⟨v, e1, hl.run H0 S0 Hs σ H s _ _ r q fun Hs2 H2 lo s2 g2 r2 q2 => hh.run H0 S0 Hs2 σ H2 s2 _ _ r2 q2 fun Hs3 H3 hi' s3 g3 r3 q3 => ?_⟩
  split at q3
  · rename_i x ex
    obtain ⟨v', e2, rd⟩ := r3.rdM hi ex
    rw [e1] at e2
    cases e2
    refine sl_run r3 rd q3 fun Hs4 H4 v d g4 r4 v4 q4 => ?_
    exact k Hs4 H4 v d s3 (g2.trans (g3.trans g4)) r4 (v4.anew fun a e => (g2.trans g3).back a e) q4
  · exact q3.elim
/-- xs[::-1] -/
def revD (x : D) (Q : D → Prop) : Prop := match x with
  | .list ds => Q (.list ds.reverse)
  | _ => False
def dRev (a : DT) : DT := fun s Q => a s fun x s1 => revD x fun z => Q z s1
theorem sim_rev (ha : Sim C ca ta da) : Sim C .F (tRevL C.K ta) (dRev da) := by
  refine ⟨fun H0 S0 Hs σ H s Q Q' r q k => ha.run H0 S0 Hs σ H s _ _ r q fun Hs1 H1 x dx s1 g1 r1 v1 q1 => ?_⟩
  have rd := v1.rd r1.sub
  cases dx <;> first | exact q1.elim | skip
  rename_i ds
  obtain ⟨a, xs, rfl, e1, e2⟩ := Rd'.list rd
  exact ⟨a, xs, rfl, SqL.of e1, fun p np => k Hs1 _ _ (.list ds.reverse) s1 (g1.trans (Go.laid np)) (r1.laid np) ((r1.newList np e2.rev).anew fun a e => g1.back a e) q1⟩
/-! ### lists of the def's own, changed in place -/
abbrev DM := List D → List D → (D → List D → Prop) → Prop
def MtA (C : Cf) (r : V → List V → Hp → VK → Prop) (f : DM) : Prop := ∀ (Hs H : Hp) (a : Addr) (xs : List V) (ds : List D) (vs : List V) (es : List D) (Q : D → List D → Prop) (Q' : VK), Same Hs H → H a = some (.lst xs) → RpAll C.K Hs xs ds → RpAll C.K Hs vs es → f ds es Q →
  (∀ v d xs' ds', RpAll C.K Hs xs' ds' → Rp C.K Hs v d → Q d ds' → Q' v (upd H a (.lst xs'))) → r (.ref a) vs H Q'
theorem R.upd {H0 S0 Hs : Hp} {σ : L2.St} {H : Hp} {s : S} {i : Nat} {a : Addr} {o' : HO} {d d' : D} (r : R C H0 S0 Hs σ H s) (hi : i ∈ C.M) (e : s.δ[i]? = some (some d)) (ea : σ[i]? = some (some (.ref a))) (h : Cn C.K Hs o' d') :
    R C H0 S0 Hs σ (L2.upd H a o') { s with δ := s.δ.set i (some d') } ∧ Go C σ Hs H Hs (L2.upd H a o') := by
  obtain ⟨a', u, e1, e2, e3, e4, e5⟩ := r.mt i d e hi
  rw [ea] at e1
  cases e1
  have il : i < s.δ.length := (List.getElem?_eq_some_iff.mp e).1
  have own : Own C σ a := ⟨i, hi, ea⟩
  have sm : ∀ b o, b ≠ a → H b = some o → L2.upd H a o' b = some o := fun b o n q => by rw [upd_ne n]; exact q
  refine ⟨⟨by simpa using r.len, fun b o q => ?_, fun j d' q m => ?_, fun j d' q m => ?_, fun j m q => ?_, r.sep, fun p c q => ?_, r.br, r.s0, fun b o n q => ?_, r.new⟩, Same.refl _, fun b o q n _ => ?_, fun b o q => ?_, fun _ h1 h2 => absurd h1 h2⟩
  · exact sm b o (fun z => by subst z; rw [e3] at q; cases q) (r.sub b o q)
  · have hj : j ≠ i := fun z => m (z ▸ hi)
    rw [List.getElem?_set_ne (Ne.symm hj)] at q
    exact r.slot j d' q m
  · by_cases hj : j = i
    · subst hj
      rw [List.getElem?_set_self il] at q
      cases q
      exact ⟨a, o', ea, upd_same, e3, h, e5⟩
    · rw [List.getElem?_set_ne (Ne.symm hj)] at q
      obtain ⟨b, w, f2, f3, f4⟩ := r.mt j d' q m
      refine ⟨b, w, f2, sm b _ (fun z => ?_) f3, f4⟩
      subst z
      exact hj (r.sep j i b m hi f2 ea)
  · by_cases hj : j = i
    · subst hj
      rw [List.getElem?_set_self il] at q
      cases q
    · rw [List.getElem?_set_ne (Ne.symm hj)] at q
      exact r.dead j m q
  · obtain ⟨f1, f2, f3, f4, f5, f6, f7, f8, f9⟩ := r.pn p c q
    refine ⟨f1, f2.but (q := a) (fun b o n q => sm b o n q) (fun z => ?_) (fun z => ?_), f3, f4, f5, ?_, f7, f8, f9⟩
    · subst z
      rcases e5 with e5 | e5
      · exact f4 e5
      · exact f8 e5
    · subst z
      rcases e5 with e5 | e5
      · exact f5 e5
      · exact f9 e5
    · rw [List.getElem?_set_ne (show i ≠ C.ps from fun z => f7 (by rw [← z]; exact hi))]
      exact f6
  · refine sm b o (fun z => ?_) (r.h0 b o n q)
    subst z
    rcases e5 with e5 | e5
    · rw [e5] at q; cases q
    · exact n (.inr e5)
  · exact sm b o (fun z => n (by rw [z]; exact own)) q
  · by_cases z : b = a
    · exact ⟨_, by rw [z]; exact upd_same⟩
    · exact ⟨o, sm b o z q⟩
def dMt (f : DM) (i : Nat) (a : DA) : DT := fun s Q => (∃ d, s.δ[i]? = some (some (.list d))) ∧ a s fun es s1 => match s1.δ[i]? with
  | some (some (.list ds)) => f ds es fun d ds' => Q d { s1 with δ := s1.δ.set i (some (.list ds')) }
  | _ => False
theorem R.mtL {H0 S0 Hs : Hp} {σ : L2.St} {H : Hp} {s : S} {i : Nat} {ds : List D} (r : R C H0 S0 Hs σ H s) (hi : i ∈ C.M) (e : s.δ[i]? = some (some (.list ds))) : ∃ a xs, σ[i]? = some (some (.ref a)) ∧ H a = some (.lst xs) := by
  obtain ⟨a, o, e1, e2, _, c, _⟩ := r.mt i _ e hi
  cases c
  exact ⟨a, _, e1, e2⟩
theorem sim_mt {n : Nat} {r : V → List V → Hp → VK → Prop} {f : DM} {ta : TA} {a : DA} (i : Nat) (hi : i ∈ C.M) (hf : MtA C r f) (ha : SimA C n ta a) : Sim C .E (tBM C.K "list" r (tVar i) ta) (dMt f i a) := by
  refine ⟨fun H0 S0 Hs σ H s Q Q' r0 q k => ?_⟩
  obtain ⟨⟨d, e⟩, q⟩ := q
  obtain ⟨b, xs, e1, e2⟩ := r0.mtL hi e
  refine ⟨_, e1, .inl ⟨rfl, xs, SqL.of e2⟩, ha.run H0 S0 Hs σ H s _ _ r0 q fun Hs1 H1 vs es s1 g1 r1 v1 _ q1 => ?_⟩
  split at q1
  · rename_i ds1 ex
    obtain ⟨b', o1, e4, e5, e6, e7, _⟩ := r1.mt i _ ex hi
    rw [e1] at e4
    cases e4
    cases e7
    rename_i xs1 e7
    refine hf Hs1 H1 b xs1 ds1 vs es _ _ r1.sub e5 e7 v1 q1 fun v d xs' ds' h1 h2 q2 => ?_
    obtain ⟨r2, g2⟩ := r1.upd hi ex e1 (.lst h1)
    exact k Hs1 _ v d _ (g1.trans g2) r2 h2 q2
  · exact q1.elim
theorem sim_mt0 {r : V → List V → Hp → VK → Prop} {f : DM} (i : Nat) (hi : i ∈ C.M) (hf : MtA C r f) : Sim C .E (tBM0 C.K "list" r (tVar i)) (dMt f i dNil) := by
  refine ⟨fun H0 S0 Hs σ H s Q Q' r0 q k => ?_⟩
  obtain ⟨⟨d, e⟩, q⟩ := q
  obtain ⟨b, o, e1, e2, e3, e4, _⟩ := r0.mt i _ e hi
  cases e4
  rename_i xs e4
  refine ⟨_, e1, .inl ⟨rfl, xs, SqL.of e2⟩, ?_⟩
  have q : (match s.δ[i]? with | some (some (.list ds)) => f ds [] fun d ds' => Q d { s with δ := s.δ.set i (some (.list ds')) } | _ => False) := q
  rw [e] at q
  refine hf Hs H b xs d [] [] _ _ r0.sub e2 e4 .nil q fun v d xs' ds' h1 h2 q2 => ?_
  obtain ⟨r2, g2⟩ := r0.upd hi e e1 (.lst h1)
  exact k Hs _ v d _ g2 r2 h2 q2
def appM : DM := fun ds es Q => match es with
  | [e] => ds.length < sizeLine ∧ Q .none (ds ++ [e])
  | _ => False
theorem mtA_app : MtA C rAppend appM := by
  intro Hs H a xs ds vs es Q Q' sub h1 h2 h3 q k
  match vs, es, h3 with
  | [v], [e], .cons h4 .nil => exact ⟨a, xs, v, rfl, rfl, h1, by rw [h2.len]; exact q.1, k _ .none _ _ (h2.app (.cons h4 .nil)) .non q.2⟩
  | [], [], _ => exact q.elim
  | _ :: _ :: _, _ :: _ :: _, _ => exact q.elim
def extM : DM := fun ds es Q => match es with
  | [e] => (match e with
    | .list zs => ds.length + zs.length ≤ sizeLine ∧ Q .none (ds ++ zs)
    | _ => False)
  | _ => False
theorem mtA_ext : MtA C rExtend extM := by
  intro Hs H a xs ds vs es Q Q' sub h1 h2 h3 q k
  match vs, es, h3 with
  | [v], [e], .cons h4 .nil =>
    cases e <;> first | exact q.elim | skip
    cases h4 with
    | @lst b zs _ h5 h6 => exact ⟨a, b, xs, zs, rfl, rfl, h1, sub _ _ h5, by rw [h2.len, h6.len]; exact q.1, k _ .none _ _ (h2.app h6) .non q.2⟩
  | [], [], _ => exact q.elim
  | _ :: _ :: _, _ :: _ :: _, _ => exact q.elim
theorem RpAll.eraseIdx {K : PySem.W.Frag} {H : Hp} : ∀ {xs : List V} {ds : List D} (n : Nat), RpAll K H xs ds → RpAll K H (xs.eraseIdx n) (ds.eraseIdx n)
  | _, _, _, .nil => by simp only [List.eraseIdx_nil]; exact .nil
  | _, _, 0, .cons a b => b
  | _, _, n + 1, .cons a b => .cons a (RpAll.eraseIdx n b)
theorem RpAll.dropLast {K : PySem.W.Frag} {H : Hp} {xs : List V} {ds : List D} (h : RpAll K H xs ds) : RpAll K H xs.dropLast ds.dropLast := by
  rw [List.dropLast_eq_take, List.dropLast_eq_take, h.len]
  exact h.take _
def popM : DM := fun ds es Q => match es with
  | [] => (match ds[ds.length - 1]? with | some d => Q d ds.dropLast | none => False)
  | _ => False
theorem mtA_pop : MtA C rPop popM := by
  intro Hs H a xs ds vs es Q Q' sub h1 h2 h3 q k
  match vs, es, h3 with
  | [], [], .nil =>
    simp only [popM] at q
    split at q
    · rename_i d e
      obtain ⟨x, e1, e2⟩ := h2.get e
      exact ⟨a, xs, x, rfl, rfl, h1, by rw [h2.len]; exact e1, k _ d _ _ h2.dropLast e2 q⟩
    · exact q.elim
  | _ :: _, _ :: _, _ => exact q.elim
def popAtM : DM := fun ds es Q => match es with
  | [e] => (match e with
    | .int i => (0 ≤ i ∧ i < 2 ^ 62) ∧ (match ds[i.toNat]? with | some d => Q d (ds.eraseIdx i.toNat) | none => False)
    | _ => False)
  | _ => False
theorem mtA_popAt : MtA C rPopAt popAtM := by
  intro Hs H a xs ds vs es Q Q' sub h1 h2 h3 q k
  match vs, es, h3 with
  | [v], [e], .cons h4 .nil =>
    cases e <;> first | exact q.elim | skip
    cases h4
    rename_i i
    obtain ⟨h0, q⟩ := q
    split at q
    · rename_i d e
      obtain ⟨x, e1, e2⟩ := h2.get e
      have hl : i.toNat < xs.length := (List.getElem?_eq_some_iff.mp e1).1
      exact ⟨a, xs, i, i.toNat, x, rfl, rfl, h1, by omega, by omega, seqIndex_of h0.1 (by omega), e1, k _ d _ _ (h2.eraseIdx _) e2 q⟩
    · exact q.elim
  | [], [], _ => exact q.elim
  | _ :: _ :: _, _ :: _ :: _, _ => exact q.elim
def clearM : DM := fun _ es Q => match es with
  | [] => Q .none []
  | _ => False
theorem mtA_clear : MtA C rClear clearM := by
  intro Hs H a xs ds vs es Q Q' sub h1 h2 h3 q k
  match vs, es, h3 with
  | [], [], .nil => exact ⟨a, xs, rfl, rfl, h1, k _ .none _ _ .nil .non q⟩
  | _ :: _, _ :: _, _ => exact q.elim
end

/-! ### statements -/
structure DEnds where
  nx : S → Prop
  rt : D → S → Prop
  bk : S → Prop := fun _ => False
  ct : S → Prop := fun _ => False
abbrev DSt := DEnds → S → Prop
structure Tr (C : Cf) (cat : Cat) (H0 S0 : Hp) (E : DEnds) (D' : Ends) : Prop where
  nx : ∀ Hs σ H s, R C H0 S0 Hs σ H s → E.nx s → D'.nx σ H
  rt : ∀ Hs σ H s v d, R C H0 S0 Hs σ H s → RV C.K H0 Hs H cat v d → E.rt d s → D'.rt v H
  bk : ∀ Hs σ H s, R C H0 S0 Hs σ H s → E.bk s → D'.bk σ H
  ct : ∀ Hs σ H s, R C H0 S0 Hs σ H s → E.ct s → D'.ct σ H
structure SimS (C : Cf) (cat : Cat) (ts : TS) (t : DSt) : Prop where
  run : ∀ (H0 S0 Hs : Hp) (σ : L2.St) (H : Hp) (s : S) (E : DEnds) (D' : Ends), R C H0 S0 Hs σ H s → t E s → Tr C cat H0 S0 E D' → ts D' σ H
section
variable {C : Cf} {cat : Cat} {te ta tb : TE} {t da db : DT} {ca cb : Cat} {ts us : TS} {a b : DSt}
def dNext : DSt := fun E s => E.nx s
def dSeq (a b : DSt) : DSt := fun E s => a { E with nx := b E } s
theorem simS_next : SimS C cat tNext dNext := ⟨fun H0 S0 Hs σ H s E D' r q k => k.nx Hs σ H s r q⟩
theorem simS_seq (ha : SimS C cat ts a) (hb : SimS C cat us b) : SimS C cat (tSeq ts us) (dSeq a b) :=
  ⟨fun H0 S0 Hs σ H s E D' r q k => ha.run H0 S0 Hs σ H s _ _ r q ⟨fun Hs σ H s r q => hb.run H0 S0 Hs σ H s E D' r q k, k.rt, k.bk, k.ct⟩⟩
def dBreak : DSt := fun E s => E.bk s
def dCont : DSt := fun E s => E.ct s
theorem simS_break : SimS C cat tBreak dBreak := ⟨fun H0 S0 Hs σ H s E D' r q k => k.bk Hs σ H s r q⟩
theorem simS_cont : SimS C cat tCont dCont := ⟨fun H0 S0 Hs σ H s E D' r q k => k.ct Hs σ H s r q⟩
def dNever : DSt := fun _ _ => False
theorem simS_never : SimS C cat tNever dNever := ⟨fun H0 S0 Hs σ H s E D' r q k => q⟩
/-! stores -/
theorem R.setE {H0 S0 Hs : Hp} {σ : L2.St} {H : Hp} {s : S} {i : Nat} {v : V} {d : D} (r : R C H0 S0 Hs σ H s) (hi : i ∉ C.M) (hp : i ≠ C.ps) (h : Rp C.K Hs v d) : R C H0 S0 Hs (σ.set i (some v)) H { s with δ := s.δ.set i (some d) } := by
  have ne : ∀ j, j ∈ C.M → j ≠ i := fun j m z => hi (z ▸ m)
  refine ⟨by simpa using r.len, r.sub, fun j d' q m => ?_, fun j d' q m => ?_, fun j m q => ?_, fun j l x m1 m2 q1 q2 => ?_, fun p c q => ?_, fun b hb => ?_, r.s0, r.h0, r.new⟩
  · by_cases hj : j = i
    · subst hj
      have il : j < s.δ.length := by
        have := (List.getElem?_eq_some_iff.mp q).1
        simpa using this
      rw [List.getElem?_set_self il] at q
      cases q
      exact ⟨v, List.getElem?_set_self (by rw [r.len]; exact il), h⟩
    · rw [List.getElem?_set_ne (Ne.symm hj)] at q ⊢
      exact r.slot j d' q m
  · rw [List.getElem?_set_ne (Ne.symm (ne j m))] at q ⊢
    exact r.mt j d' q m
  · rw [List.getElem?_set_ne (Ne.symm (ne j m))] at q ⊢
    exact r.dead j m q
  · rw [List.getElem?_set_ne (Ne.symm (ne j m1))] at q1
    rw [List.getElem?_set_ne (Ne.symm (ne l m2))] at q2
    exact r.sep j l x m1 m2 q1 q2
  · obtain ⟨f1, f2, f3, f4, f5, f6, f7⟩ := r.pn p c q
    exact ⟨by rw [List.getElem?_set_ne hp]; exact f1, f2, f3, f4, f5, by rw [List.getElem?_set_ne hp]; exact f6, f7⟩
  · obtain ⟨⟨j, b1, b2, b3⟩, b4⟩ := r.br b hb
    exact ⟨⟨j, b1, b2, by rw [List.getElem?_set_ne (Ne.symm (ne j b2))]; exact b3⟩, b4⟩
theorem R.setM {H0 S0 Hs : Hp} {σ : L2.St} {H : Hp} {s : S} {i : Nat} {x : Addr} {d : D} {Hst : Hp} (r : R C H0 S0 Hs σ H s) (hi : i ∈ C.M) (hb : i ∉ C.bs) (f : Fresh C H0 Hst Hs σ H x d) :
    R C H0 S0 Hs (σ.set i (some (.ref x))) H { s with δ := s.δ.set i (some d) } := by
  obtain ⟨o, h1, h2, h3, _, h4, h5⟩ := f
  refine ⟨by simpa using r.len, r.sub, fun j d' q m => ?_, fun j d' q m => ?_, fun j m q => ?_, fun j l y m1 m2 q1 q2 => ?_, fun p c q => ?_, fun b hb' => ?_, r.s0, r.h0, r.new⟩
  · have hj : j ≠ i := fun z => m (z ▸ hi)
    rw [List.getElem?_set_ne (Ne.symm hj)] at q ⊢
    exact r.slot j d' q m
  · by_cases hj : j = i
    · subst hj
      have il : j < s.δ.length := by
        have := (List.getElem?_eq_some_iff.mp q).1
        simpa using this
      rw [List.getElem?_set_self il] at q
      cases q
      exact ⟨x, o, List.getElem?_set_self (by rw [r.len]; exact il), h1, h2, h4, .inl h3⟩
    · rw [List.getElem?_set_ne (Ne.symm hj)] at q ⊢
      exact r.mt j d' q m
  · by_cases hj : j = i
    · subst hj
      have il : j < s.δ.length := by
        have := (List.getElem?_eq_some_iff.mp q).1
        simpa using this
      rw [List.getElem?_set_self il] at q
      cases q
    · rw [List.getElem?_set_ne (Ne.symm hj)] at q ⊢
      exact r.dead j m q
  · by_cases hj : j = i
    · by_cases hl : l = i
      · rw [hj, hl]
      · subst hj
        have jl : j < σ.length := by
          have := (List.getElem?_eq_some_iff.mp q1).1
          simpa using this
        rw [List.getElem?_set_self jl] at q1
        cases q1
        rw [List.getElem?_set_ne (Ne.symm hl)] at q2
        exact absurd ⟨l, m2, q2⟩ h5
    · by_cases hl : l = i
      · subst hl
        have ll : l < σ.length := by
          have := (List.getElem?_eq_some_iff.mp q2).1
          simpa using this
        rw [List.getElem?_set_self ll] at q2
        cases q2
        rw [List.getElem?_set_ne (Ne.symm hj)] at q1
        exact absurd ⟨j, m1, q1⟩ h5
      · rw [List.getElem?_set_ne (Ne.symm hj)] at q1
        rw [List.getElem?_set_ne (Ne.symm hl)] at q2
        exact r.sep j l y m1 m2 q1 q2
  · obtain ⟨f1, f2, f3, f4, f5, f6, f7⟩ := r.pn p c q
    have hp : i ≠ C.ps := fun z => f7.1 (by rw [← z]; exact hi)
    exact ⟨by rw [List.getElem?_set_ne hp]; exact f1, f2, f3, f4, f5, by rw [List.getElem?_set_ne hp]; exact f6, f7⟩
  · obtain ⟨⟨j, b1, b2, b3⟩, b4⟩ := r.br b hb'
    exact ⟨⟨j, b1, b2, by rw [List.getElem?_set_ne (fun z => hb (by rw [z]; exact b1))]; exact b3⟩, b4⟩
def dSet (i : Nat) (a : DT) : DSt := fun E s => a s fun d s1 => E.nx { s1 with δ := s1.δ.set i (some d) }
theorem simS_set (i : Nat) (hi : i ∉ C.M) (hp : i ≠ C.ps) (h : Sim C ca te t) : SimS C cat (tAsg te (gName i)) (dSet i t) :=
  ⟨fun H0 S0 Hs σ H s E D' r q k => h.toE.run H0 S0 Hs σ H s _ _ r q fun Hs1 H1 v d s1 g1 r1 v1 q1 => k.nx Hs1 _ H1 _ (r1.setE hi hp v1) q1⟩
def dSetM (i : Nat) (a : DT) : DSt := fun E s => a s fun d s1 => isC d = true ∧ E.nx { s1 with δ := s1.δ.set i (some d) }
theorem simS_setM (i : Nat) (hi : i ∈ C.M) (hb : i ∉ C.bs) (h : Sim C .F te t) : SimS C cat (tAsg te (gName i)) (dSetM i t) := by
  refine ⟨fun H0 S0 Hs σ H s E D' r q k => h.run H0 S0 Hs σ H s _ _ r q fun Hs1 H1 v d s1 g1 r1 v1 q1 => ?_⟩
  obtain ⟨x, rfl, f⟩ := v1.c q1.1
  exact k.nx Hs1 _ H1 _ (r1.setM hi hb f) q1.2
def dDrop (a : DT) : DSt := fun E s => a s fun _ s1 => E.nx s1
theorem simS_drop (h : Sim C ca te t) : SimS C cat (tDrop te) (dDrop t) :=
  ⟨fun H0 S0 Hs σ H s E D' r q k => h.run H0 S0 Hs σ H s _ _ r q fun Hs1 H1 v d s1 g1 r1 v1 q1 => k.nx Hs1 _ H1 _ r1 q1⟩
def dRet (a : DT) : DSt := fun E s => a s fun d s1 => E.rt d s1
theorem simS_ret (h : Sim C cat te t) : SimS C cat (tRet te) (dRet t) := by
  refine ⟨fun H0 S0 Hs σ H s E D' r q k => h.run H0 S0 Hs σ H s _ _ r q fun Hs1 H1 v d s1 g1 r1 v1 q1 => k.rt Hs1 σ H1 s1 v d r1 ?_ q1⟩
  cases cat with
  | E => exact v1
  | F =>
    cases e : isC d with
    | true =>
      obtain ⟨x, rfl, o, h1, h2, h3, h4, h5, h6⟩ := v1.c e
      exact ifp e ⟨x, o, rfl, h1, h2, h3, h5⟩
    | false => exact ifn (by rw [e]; exact Bool.false_ne_true) (v1.p e)
/-- return of a list of the def's own -/
def dRetM (i : Nat) : DSt := fun E s => match s.δ[i]? with
  | some (some d) => E.rt d { s with δ := s.δ.set i none }
  | _ => False
theorem R.dropM {H0 S0 Hs : Hp} {σ : L2.St} {H : Hp} {s : S} {i : Nat} (r : R C H0 S0 Hs σ H s) (hi : i ∈ C.M) (hb : i ∉ C.bs) : R C H0 S0 Hs (σ.set i none) H { s with δ := s.δ.set i none } := by
  have ko : ∀ (j : Nat) (v : V), (σ.set i none)[j]? = some (some v) → j ≠ i ∧ σ[j]? = some (some v) := fun j v q => by
    by_cases hj : j = i
    · subst hj
      have jl : j < σ.length := by
        have := (List.getElem?_eq_some_iff.mp q).1
        simpa using this
      rw [List.getElem?_set_self jl] at q
      cases q
    · rw [List.getElem?_set_ne (Ne.symm hj)] at q
      exact ⟨hj, q⟩
  refine ⟨by simpa using r.len, r.sub, fun j d' q m => ?_, fun j d' q m => ?_, fun j m q => ?_, fun j l y m1 m2 q1 q2 => r.sep j l y m1 m2 (ko j _ q1).2 (ko l _ q2).2, fun p c q => ?_, fun b hb' => ?_, r.s0, r.h0, r.new⟩
  · have hj : j ≠ i := fun z => m (z ▸ hi)
    rw [List.getElem?_set_ne (Ne.symm hj)] at q ⊢
    exact r.slot j d' q m
  · by_cases hj : j = i
    · subst hj
      have il : j < s.δ.length := by
        have := (List.getElem?_eq_some_iff.mp q).1
        simpa using this
      rw [List.getElem?_set_self il] at q
      cases q
    · rw [List.getElem?_set_ne (Ne.symm hj)] at q ⊢
      exact r.mt j d' q m
  · by_cases hj : j = i
    · subst hj
      have il : j < s.δ.length := by
        have := (List.getElem?_eq_some_iff.mp q).1
        simpa using this
      exact List.getElem?_set_self (by rw [r.len]; exact il)
    · rw [List.getElem?_set_ne (Ne.symm hj)] at q ⊢
      exact r.dead j m q
  · obtain ⟨f1, f2, f3, f4, f5, f6, f7⟩ := r.pn p c q
    have hp : i ≠ C.ps := fun z => f7.1 (by rw [← z]; exact hi)
    exact ⟨by rw [List.getElem?_set_ne hp]; exact f1, f2, f3, f4, f5, by rw [List.getElem?_set_ne hp]; exact f6, f7⟩
  · obtain ⟨⟨j, b1, b2, b3⟩, b4⟩ := r.br b hb'
    exact ⟨⟨j, b1, b2, by rw [List.getElem?_set_ne (fun z => hb (by rw [z]; exact b1))]; exact b3⟩, b4⟩
theorem simS_retM (i : Nat) (hi : i ∈ C.M) (hb : i ∉ C.bs) : SimS C cat (tRet (tVar i)) (dRetM i) := by
  refine ⟨fun H0 S0 Hs σ H s E D' r q k => ?_⟩
  unfold dRetM at q
  split at q
  · rename_i d e
    obtain ⟨x, o, e1, e2, e3, e4, e5⟩ := r.mt i d e hi
    refine ⟨_, e1, ?_⟩
    have r' := r.dropM hi hb
    have e5 : H0 x = none := by
      rcases e5 with e5 | e5
      · exact e5
      · obtain ⟨⟨j, b1, b2, b3⟩, _⟩ := r.br x e5
        exact absurd (by rw [← r.sep j i x b2 hi b3 e1]; exact b1) hb
    cases cat with
    | F => exact k.rt Hs _ H _ _ d r' (ifp e4.is ⟨x, o, rfl, e2, e3, e5, e4⟩) q
    | E =>
      have no : ¬ Own C (σ.set i none) x := fun ⟨j, m, z⟩ => by
        by_cases hj : j = i
        · subst hj
          have jl : j < σ.length := by
            have := (List.getElem?_eq_some_iff.mp z).1
            simpa using this
          rw [List.getElem?_set_self jl] at z
          cases z
        · rw [List.getElem?_set_ne (Ne.symm hj)] at z
          exact hj (r.sep j i x m hi z e1)
      obtain ⟨Hs', _, r2, rp, _⟩ := r'.freeze (Hst := Hs) ⟨o, e2, e3, e5, e3, e4, no⟩
      exact k.rt Hs' _ H _ _ _ r2 rp q
  · exact q.elim
def dRetN : DSt := fun E s => E.rt .none s
theorem simS_retN : SimS C cat tRetN dRetN := by
  refine ⟨fun H0 S0 Hs σ H s E D' r q k => k.rt Hs σ H s .non .none r ?_ q⟩
  cases cat with
  | E => exact Rp.non
  | F => simp only [RV, isC, if_neg Bool.false_ne_true]; exact Rp.non
def dIfS (c : DB) (a b : DSt) : DSt := fun E s => c s fun k s1 => if k = true then a E s1 else b E s1
theorem simS_if {tt : TT} {c : DB} (hc : SimT C tt c) (ha : SimS C cat ts a) (hb : SimS C cat us b) : SimS C cat (tIfS tt ts us) (dIfS c a b) := by
  refine ⟨fun H0 S0 Hs σ H s E D' r q k => hc.run H0 S0 Hs σ H s _ _ r q fun Hs1 H1 c s1 g1 r1 q1 => ?_⟩
  cases c with
  | true => exact ifp rfl (ha.run H0 S0 Hs1 σ H1 s1 E D' r1 (by simpa using q1) k)
  | false => exact ifn Bool.false_ne_true (hb.run H0 S0 Hs1 σ H1 s1 E D' r1 (by simpa using q1) k)
/-! targets -/
structure SimG (C : Cf) (ts : List Nat) (g : TG) (t : D → S → (S → Prop) → Prop) : Prop where
  run : ∀ (H0 S0 Hs : Hp) (σ : L2.St) (H : Hp) (s : S) (v : V) (d : D) (Q : S → Prop) (Q' : L2.St → Hp → Prop), R C H0 S0 Hs σ H s → Rp C.K Hs v d → t d s Q →
    (∀ σ' s', R C H0 S0 Hs σ' H s' → σ'.length = σ.length → (∀ j, j ∉ ts → σ'[j]? = σ[j]?) → Q s' → Q' σ' H) → g v σ H Q'
structure SimGs (C : Cf) (ts : List Nat) (g : TGs) (t : List D → S → (S → Prop) → Prop) : Prop where
  run : ∀ (H0 S0 Hs : Hp) (σ : L2.St) (H : Hp) (s : S) (vs : List V) (ds : List D) (Q : S → Prop) (Q' : L2.St → Hp → Prop), R C H0 S0 Hs σ H s → RpAll C.K Hs vs ds → t ds s Q →
    (∀ σ' s', R C H0 S0 Hs σ' H s' → σ'.length = σ.length → (∀ j, j ∉ ts → σ'[j]? = σ[j]?) → Q s' → Q' σ' H) → g vs σ H Q'
def sName (i : Nat) : D → S → (S → Prop) → Prop := fun d s Q => Q { s with δ := s.δ.set i (some d) }
theorem simG_name (i : Nat) (hi : i ∉ C.M) (hp : i ≠ C.ps) : SimG C [i] (gName i) (sName i) :=
  ⟨fun H0 S0 Hs σ H s v d Q Q' r h q k => k _ _ (r.setE hi hp h) (by simp) (fun j hj => List.getElem?_set_ne (fun z => hj (by simp [z]))) q⟩
def sNil : List D → S → (S → Prop) → Prop := fun ds s Q => match ds with
  | [] => Q s
  | _ => False
def sCons (a : D → S → (S → Prop) → Prop) (b : List D → S → (S → Prop) → Prop) : List D → S → (S → Prop) → Prop := fun ds s Q => match ds with
  | d :: r => a d s fun s1 => b r s1 Q
  | [] => False
theorem simGs_nil : SimGs C [] gNil sNil := by
  refine ⟨fun H0 S0 Hs σ H s vs ds Q Q' r h q k => ?_⟩
  cases h with
  | nil => exact ⟨rfl, k σ s r rfl (fun _ _ => rfl) q⟩
  | cons _ _ => exact q.elim
theorem simGs_cons {ts us : List Nat} {g : TG} {gs : TGs} {x : D → S → (S → Prop) → Prop} {y : List D → S → (S → Prop) → Prop} (h1 : SimG C ts g x) (h2 : SimGs C us gs y) : SimGs C (ts ++ us) (gCons g gs) (sCons x y) := by
  refine ⟨fun H0 S0 Hs σ H s vs ds Q Q' r h q k => ?_⟩
  cases h with
  | nil => exact q.elim
  | cons a b =>
    refine ⟨_, _, rfl, h1.run H0 S0 Hs σ H s _ _ _ _ r a q fun σ1 s1 r1 l1 e1 q1 => h2.run H0 S0 Hs σ1 H s1 _ _ _ _ r1 b q1 fun σ2 s2 r2 l2 e2 q2 => ?_⟩
    refine k σ2 s2 r2 (l2.trans l1) (fun j hj => ?_) q2
    rw [List.mem_append, not_or] at hj
    rw [e2 j hj.2, e1 j hj.1]
def sTup (n : Nat) (a : List D → S → (S → Prop) → Prop) : D → S → (S → Prop) → Prop := fun d s Q => match d with
  | .tuple ds => ds.length = n ∧ a ds s Q
  | _ => False
theorem simG_tup {ts : List Nat} {n : Nat} {gs : TGs} {x : List D → S → (S → Prop) → Prop} (h : SimGs C ts gs x) : SimG C ts (gTup C.K n gs) (sTup n x) := by
  refine ⟨fun H0 S0 Hs σ H s v d Q Q' r hv q k => ?_⟩
  cases d <;> first | exact q.elim | skip
  cases hv with
  | @tup p xs _ e1 e2 => exact ⟨p, xs, rfl, Same.sqT r.sub e1, by rw [e2.len]; exact q.1, h.run H0 S0 Hs σ H s _ _ _ _ r e2 q.2 k⟩
def dAsgG (a : DT) (g : D → S → (S → Prop) → Prop) : DSt := fun E s => a s fun d s1 => g d s1 E.nx
theorem simS_asg {ts : List Nat} {g : TG} {x : D → S → (S → Prop) → Prop} (h : Sim C ca te t) (hg : SimG C ts g x) : SimS C cat (tAsg te g) (dAsgG t x) :=
  ⟨fun H0 S0 Hs σ H s E D' r q k => h.toE.run H0 S0 Hs σ H s _ _ r q fun Hs1 H1 v d s1 g1 r1 v1 q1 => hg.run H0 S0 Hs1 σ H1 s1 v d _ _ r1 v1 q1 fun σ' s' r2 _ _ q2 => k.nx Hs1 σ' H1 s' r2 q2⟩
/-- a, b = x, y: both names at once -/
def dPar (i j : Nat) (a : DA) : DSt := fun E s => a s fun ds s1 => match ds with
  | [d, e] => E.nx { s1 with δ := (s1.δ.set i (some d)).set j (some e) }
  | _ => False
theorem simS_par {ta : TA} {a : DA} (i j : Nat) (hi : i ∉ C.M) (hj : j ∉ C.M) (pi : i ≠ C.ps) (pj : j ≠ C.ps) (h : SimA C 2 ta a) : SimS C cat (tPar i j ta) (dPar i j a) := by
  refine ⟨fun H0 S0 Hs σ H s E D' r q k => h.run H0 S0 Hs σ H s _ _ r q fun Hs1 H1 vs ds s1 g1 r1 v1 l1 q1 => ?_⟩
  match vs, ds, v1 with
  | [v, w], [d, e], .cons h1 (.cons h2 .nil) => exact ⟨v, w, rfl, k.nx Hs1 _ H1 _ ((r1.setE hi pi h1).setE hj pj h2) q1⟩
  | [], [], _ => exact q1.elim
  | [_], [_], _ => exact q1.elim
  | _ :: _ :: _ :: _, _ :: _ :: _ :: _, _ => exact q1.elim
/-- x op= e -/
def dAug (i : Nat) (f : DO) (a : DT) : DSt := fun E s => match s.δ[i]? with
  | some (some x) => a s fun y s1 => f x y fun z => E.nx { s1 with δ := s1.δ.set i (some z) }
  | _ => False
theorem simS_aug {r : R2} {f : DO} (i : Nat) (hi : i ∉ C.M) (hp : i ≠ C.ps) (ho : OpA C r f) (h : Sim C ca te t) : SimS C cat (tAug i te r) (dAug i f t) := by
  refine ⟨fun H0 S0 Hs σ H s E D' r0 q k => ?_⟩
  unfold dAug at q
  split at q
  · rename_i x e
    obtain ⟨v, e1, rp⟩ := r0.slot i x e hi
    refine ⟨v, e1, h.run H0 S0 Hs σ H s _ _ r0 q fun Hs1 H1 y dy s1 g1 r1 v1 q1 => ?_⟩
    refine ho H0 S0 Hs1 σ H1 s1 v y x dy _ _ r1 ((Rp.mono g1.st rp).rd r1.sub) (v1.rd r1.sub) q1 fun Hs2 H2 z dz g2 r2 v2 q2 => ?_
    cases ez : isC dz with
    | true =>
      obtain ⟨w, rfl, f⟩ := v2.c ez
      obtain ⟨Hs3, s3, r3, rp3, _⟩ := r2.freeze f
      exact k.nx Hs3 _ H2 _ (r3.setE hi hp rp3) q2
    | false => exact k.nx Hs2 _ H2 _ (r2.setE hi hp (v2.p ez)) q2
  · exact q.elim
/-- xs[i] = e, xs of the def's own -/
def dSetAt (i : Nat) (a j : DT) : DSt := fun E s => a s fun d s1 => (∃ z, s1.δ[i]? = some (some (.list z))) ∧ j s1 fun k s2 => match k with
  | .int n => (match s2.δ[i]? with
    | some (some (.list ds)) => (match ixN ds.length n with
      | some m => E.nx { s2 with δ := s2.δ.set i (some (.list (ds.set m d))) }
      | none => False)
    | _ => False)
  | _ => False
theorem simS_setAt (i : Nat) (hi : i ∈ C.M) (h : Sim C ca ta da) (hj : Sim C cb tb db) : SimS C cat (tAsg ta (gSub (tVar i) tb rSetL)) (dSetAt i da db) := by
  refine ⟨fun H0 S0 Hs σ H s E D' r q k => h.toE.run H0 S0 Hs σ H s _ _ r q fun Hs1 H1 v d s1 g1 r1 v1 q1 => ?_⟩
  obtain ⟨⟨z, ez⟩, q1⟩ := q1
  obtain ⟨x, xs, e1, _⟩ := r1.mtL hi ez
  refine ⟨_, e1, hj.run H0 S0 Hs1 σ H1 s1 _ _ r1 q1 fun Hs2 H2 w dk s2 g2 r2 v2 q2 => ?_⟩
  cases dk <;> first | exact q2.elim | skip
  rename_i n
  cases v2.int'
  have q2 : (match s2.δ[i]? with | some (some (.list ds)) => (match ixN ds.length n with | some m => E.nx { s2 with δ := s2.δ.set i (some (.list (ds.set m d))) } | none => False) | _ => False) := q2
  split at q2
  · rename_i ds2 e2
    split at q2
    · rename_i m em
      obtain ⟨x', o2, e4, e5, e6, e7, e8⟩ := r2.mt i _ e2 hi
      rw [e1] at e4
      cases e4
      cases e7
      rename_i xs2 e7
      obtain ⟨r3, _⟩ := r2.upd hi e2 e1 (.lst (e7.set m (Rp.mono g2.st v1)))
      exact ⟨x, xs2, n, m, rfl, rfl, e5, by rw [e7.len]; exact em, k.nx Hs2 _ _ _ r3 q2⟩
    · exact q2.elim
  · exact q2.elim
end

/-! ### what is walked -/
/-- J goes through the trees items, wherever Hs1 stays -/
def ItOk (C : Cf) (Hs1 : Hp) (J : It) (items : List D) : Prop := ∃ (G : Hp → Prop) (Y : Nat → Hp → V → Hp → Prop), Walk J items.length G Y ∧ (∀ H, Same Hs1 H → G H) ∧
  ∀ (i : Nat) (H : Hp) (x : V) (H2 : Hp) (H0 S0 Hs : Hp) (σ : L2.St) (s : S), i < items.length → R C H0 S0 Hs σ H s → Same Hs1 Hs → Y i H x H2 →
    ∃ Hs2 d, items[i]? = some d ∧ R C H0 S0 Hs2 σ H2 s ∧ Rp C.K Hs2 x d ∧ Go C σ Hs H Hs2 H2
abbrev DI := S → (List D → S → Prop) → Prop
structure SimI (C : Cf) (wi : TI) (t : DI) : Prop where
  run : ∀ (H0 S0 Hs : Hp) (σ : L2.St) (H : Hp) (s : S) (Q : List D → S → Prop) (Q' : It → Hp → Prop), R C H0 S0 Hs σ H s → t s Q →
    (∀ Hs' H' J items s', Go C σ Hs H Hs' H' → R C H0 S0 Hs' σ H' s' → ItOk C Hs' J items → Q items s' → Q' J H') → wi σ H Q'
section
variable {C : Cf} {cat : Cat} {te ta tb : TE} {t da db : DT} {ca cb : Cat} {ts us : TS} {a b : DSt}
theorem itOk_list {Hs1 : Hp} {x : Addr} {xs : List V} {ds : List D} (h : Hs1 x = some (.lst xs)) (hd : RpAll C.K Hs1 xs ds) : ItOk C Hs1 (Itl C.K x) ds := by
  refine ⟨_, _, by rw [← hd.len]; exact walk_list (xs := xs), fun H e => SqL.of (e _ _ h), fun i H v H2 H0 S0 Hs σ s hi r e y => ?_⟩
  obtain ⟨rfl, y⟩ := y
  obtain ⟨d, e1, e2⟩ := hd.getV y
  exact ⟨Hs, d, e1, r, Rp.mono e e2, Go.refl⟩
theorem itOk_tup {Hs1 : Hp} {x : Addr} {xs : List V} {ds : List D} (h : SqT C.K Hs1 x xs) (hd : RpAll C.K Hs1 xs ds) : ItOk C Hs1 (Itt C.K x) ds := by
  refine ⟨_, _, by rw [← hd.len]; exact walk_tup (xs := xs), fun H e => Same.sqT e h, fun i H v H2 H0 S0 Hs σ s hi r e y => ?_⟩
  obtain ⟨rfl, y⟩ := y
  obtain ⟨d, e1, e2⟩ := hd.getV y
  exact ⟨Hs, d, e1, r, Rp.mono e e2, Go.refl⟩
/-- a list -/
theorem simI_list (h : Sim C ca te t) : SimI C (iList C.K te) (fun s Q => t s fun d s1 => match d with | .list ds => Q ds s1 | _ => False) := by
  refine ⟨fun H0 S0 Hs σ H s Q Q' r q k => h.toE.run H0 S0 Hs σ H s _ _ r q fun Hs1 H1 v d s1 g1 r1 v1 q1 => ?_⟩
  cases d <;> first | exact q1.elim | skip
  cases v1 with
  | @lst x xs _ e1 e2 => exact ⟨x, rfl, ⟨xs, SqL.of (r1.sub _ _ e1)⟩, k Hs1 H1 _ _ s1 g1 r1 (itOk_list e1 e2) q1⟩
theorem simI_tup (h : Sim C ca te t) : SimI C (iTup C.K te) (fun s Q => t s fun d s1 => match d with | .tuple ds => Q ds s1 | _ => False) := by
  refine ⟨fun H0 S0 Hs σ H s Q Q' r q k => h.toE.run H0 S0 Hs σ H s _ _ r q fun Hs1 H1 v d s1 g1 r1 v1 q1 => ?_⟩
  cases d <;> first | exact q1.elim | skip
  cases v1 with
  | @tup x xs _ e1 e2 => exact ⟨x, rfl, ⟨xs, Same.sqT r1.sub e1⟩, k Hs1 H1 _ _ s1 g1 r1 (itOk_tup e1 e2) q1⟩
/-- range -/
def rgD (lo : Int) (n : Nat) : List D := (List.range n).map fun i => .int (lo + (i : Nat))
theorem itOk_range {Hs1 : Hp} (lo : Int) (n : Nat) : ItOk C Hs1 (Itr lo n) (rgD lo n) := by
  have hl : (rgD lo n).length = n := by unfold rgD; rw [List.length_map, List.length_range]
  refine ⟨_, _, by rw [hl]; exact walk_range, fun H e => True.intro, fun i H v H2 H0 S0 Hs σ s hi r e y => ?_⟩
  obtain ⟨rfl, rfl⟩ := y
  refine ⟨Hs, .int (lo + (i : Nat)), ?_, r, Rp.int _, Go.refl⟩
  unfold rgD
  rw [hl] at hi
  rw [List.getElem?_map, List.getElem?_range hi]
  rfl
def dRange1 (a : DT) : DI := fun s Q => a s fun d s1 => match d with
  | .int j => (-(2 ^ 62) ≤ j ∧ j < 2 ^ 62) ∧ Q (rgD 0 j.toNat) s1
  | _ => False
theorem simI_range1 (h : Sim C ca te t) : SimI C (iRng1 (tCons te tNil)) (dRange1 t) := by
  refine ⟨fun H0 S0 Hs σ H s Q Q' r q k => h.run H0 S0 Hs σ H s _ _ r q fun Hs1 H1 v d s1 g1 r1 v1 q1 => ?_⟩
  cases d <;> first | exact q1.elim | skip
  rename_i j
  cases v1.int'
  exact ⟨j, rfl, q1.1.1, q1.1.2, k Hs1 H1 _ _ s1 g1 r1 (itOk_range 0 j.toNat) q1.2⟩
def dRange2 (a b : DT) : DI := fun s Q => a s fun d s1 => b s1 fun e s2 => match d, e with
  | .int i, .int j => (-(2 ^ 62) ≤ i ∧ i < 2 ^ 62 ∧ -(2 ^ 62) ≤ j ∧ j < 2 ^ 62) ∧ Q (rgD i (j - i).toNat) s2
  | _, _ => False
theorem simI_range2 (ha : Sim C ca ta da) (hb : Sim C cb tb db) : SimI C (iRng2 (tCons ta (tCons tb tNil))) (dRange2 da db) := by
  refine ⟨fun H0 S0 Hs σ H s Q Q' r q k => ha.run H0 S0 Hs σ H s _ _ r q fun Hs1 H1 v d s1 g1 r1 v1 q1 => hb.run H0 S0 Hs1 σ H1 s1 _ _ r1 q1 fun Hs2 H2 w e s2 g2 r2 v2 q2 => ?_⟩
  cases d <;> cases e <;> first | exact q2.elim | skip
  rename_i i j
  cases v1.int'
  cases v2.int'
  exact ⟨i, j, rfl, q2.1, k Hs2 H2 _ _ s2 (g1.trans g2) r2 (itOk_range i (j - i).toNat) q2.2⟩
/-- pairs: enumerate, zip -/
def prD (xs ys : List D) : List D := (xs.zip ys).map fun p => .tuple [p.1, p.2]
theorem pair_it {H0 S0 Hs : Hp} {σ : L2.St} {H : Hp} {s : S} {T : Addr} {x y : V} {dx dy : D} (r : R C H0 S0 Hs σ H s) (n : H T = none) (hx : Rp C.K Hs x dx) (hy : Rp C.K Hs y dy) :
    ∃ Hs2, R C H0 S0 Hs2 σ (L2.upd H T (.tup [x, y])) s ∧ Rp C.K Hs2 (.ref T) (.tuple [dx, dy]) ∧ Go C σ Hs H Hs2 (L2.upd H T (.tup [x, y])) := by
  obtain ⟨r', g'⟩ := r.newTup (o := .tup [x, y]) n
  exact ⟨_, r', Rp.tup (SqT.of upd_same) (.cons (Rp.mono g'.st hx) (.cons (Rp.mono g'.st hy) .nil)), g'⟩
def dEnum (a : DT) : DI := fun s Q => a s fun d s1 => match d with
  | .list ds => Q (prD (rgD 0 ds.length) ds) s1
  | _ => False
theorem enum_len (ds : List D) : (prD (rgD 0 ds.length) ds).length = ds.length := by
  unfold prD rgD
  rw [List.length_map, List.length_zip, List.length_map, List.length_range, Nat.min_self]
theorem enum_get {ds : List D} {i : Nat} {d : D} (h : ds[i]? = some d) : (prD (rgD 0 ds.length) ds)[i]? = some (.tuple [.int (i : Nat), d]) := by
  have hi : i < ds.length := (List.getElem?_eq_some_iff.mp h).1
  have h1 : (rgD 0 ds.length)[i]? = some (.int (0 + (i : Nat))) := by
    unfold rgD
    rw [List.getElem?_map, List.getElem?_range hi]
    rfl
  have h2 : ((rgD 0 ds.length).zip ds)[i]? = some (.int (0 + (i : Nat)), d) := List.getElem?_zip_eq_some.mpr ⟨h1, h⟩
  unfold prD
  rw [List.getElem?_map, h2]
  simp
theorem itOk_enum {Hs1 : Hp} {x : Addr} {xs : List V} {ds : List D} (h : Hs1 x = some (.lst xs)) (hd : RpAll C.K Hs1 xs ds) : ItOk C Hs1 (Ite C.K x) (prD (rgD 0 ds.length) ds) := by
  refine ⟨_, _, by rw [enum_len, ← hd.len]; exact walk_enum (xs := xs), fun H e => SqL.of (e _ _ h), fun i H v H2 H0 S0 Hs σ s hi r e y => ?_⟩
  obtain ⟨T, x1, x2, rfl, nT, rfl, e1, e2⟩ := y
  cases e1
  obtain ⟨d, e3, e4⟩ := hd.getV e2
  obtain ⟨Hs2, r2, rp, g⟩ := pair_it r nT (Rp.int ((i : Nat) : Int)) (Rp.mono e e4)
  exact ⟨Hs2, _, enum_get e3, r2, rp, g⟩
theorem simI_enum (h : Sim C ca te t) : SimI C (iEnum C.K (tCons te tNil)) (dEnum t) := by
  refine ⟨fun H0 S0 Hs σ H s Q Q' r q k => h.toE.run H0 S0 Hs σ H s _ _ r q fun Hs1 H1 v d s1 g1 r1 v1 q1 => ?_⟩
  cases d <;> first | exact q1.elim | skip
  cases v1 with
  | @lst x xs _ e1 e2 => exact ⟨x, xs, rfl, SqL.of (r1.sub _ _ e1), k Hs1 H1 _ _ s1 g1 r1 (itOk_enum e1 e2) q1⟩
def dZip (a b : DT) : DI := fun s Q => a s fun d s1 => b s1 fun e s2 => match d, e with
  | .list ds, .list es => Q (prD ds es) s2
  | .tuple ds, .tuple es => Q (prD ds es) s2
  | _, _ => False
theorem zip_len (ds es : List D) : (prD ds es).length = min ds.length es.length := by
  unfold prD
  rw [List.length_map, List.length_zip]
theorem zip_get {ds es : List D} {i : Nat} {d e : D} (h : ds[i]? = some d) (h' : es[i]? = some e) : (prD ds es)[i]? = some (.tuple [d, e]) := by
  have h2 : (ds.zip es)[i]? = some (d, e) := List.getElem?_zip_eq_some.mpr ⟨h, h'⟩
  unfold prD
  rw [List.getElem?_map, h2]
  rfl
theorem simI_zip (ha : Sim C ca ta da) (hb : Sim C cb tb db) : SimI C (iZipA C.K (tCons ta (tCons tb tNil))) (dZip da db) := by
  refine ⟨fun H0 S0 Hs σ H s Q Q' r q k => ha.toE.run H0 S0 Hs σ H s _ _ r q fun Hs1 H1 v d s1 g1 r1 v1 q1 => hb.toE.run H0 S0 Hs1 σ H1 s1 _ _ r1 q1 fun Hs2 H2 w e s2 g2 r2 v2 q2 => ?_⟩
  cases d <;> cases e <;> first | exact q2.elim | skip
  case list.list ds es =>
    cases v1 with
    | @lst x xs _ e1 e2 =>
    cases v2 with
    | @lst y ys _ e3 e4 =>
    have e1' := g2.st _ _ e1
    have e2' := RpAll.mono g2.st e2
    refine ⟨x, y, xs, ys, rfl, .inl ⟨SqL.of (r2.sub _ _ e1'), SqL.of (r2.sub _ _ e3), k Hs2 H2 _ _ s2 (g1.trans g2) r2 ?_ q2⟩⟩
    refine ⟨_, _, walk_zip (K := C.K) (a := x) (b := y) (xs := xs) (ys := ys) (by rw [zip_len, e2.len, e4.len]), fun H e => ⟨SqL.of (e _ _ e1'), SqL.of (e _ _ e3)⟩, fun i H v H2 H0 S0 Hs σ s hi r e y => ?_⟩
    obtain ⟨T, x1, x2, rfl, nT, rfl, f1, f2⟩ := y
    obtain ⟨d, f3, f4⟩ := e2'.getV f1
    obtain ⟨d', f5, f6⟩ := e4.getV f2
    obtain ⟨Hs2, r2, rp, g⟩ := pair_it r nT (Rp.mono e f4) (Rp.mono e f6)
    exact ⟨Hs2, _, zip_get f3 f5, r2, rp, g⟩
  case tuple.tuple ds es =>
    cases v1 with
    | @tup x xs _ e1 e2 =>
    cases v2 with
    | @tup y ys _ e3 e4 =>
    have e1' := Same.sqT g2.st e1
    have e2' := RpAll.mono g2.st e2
    refine ⟨x, y, xs, ys, rfl, .inr ⟨Same.sqT r2.sub e1', Same.sqT r2.sub e3, k Hs2 H2 _ _ s2 (g1.trans g2) r2 ?_ q2⟩⟩
    refine ⟨_, _, walk_zipT (K := C.K) (a := x) (b := y) (xs := xs) (ys := ys) (by rw [zip_len, e2.len, e4.len]), fun H e => ⟨Same.sqT e e1', Same.sqT e e3⟩, fun i H v H2 H0 S0 Hs σ s hi r e y => ?_⟩
    obtain ⟨T, x1, x2, rfl, nT, rfl, f1, f2⟩ := y
    obtain ⟨d, f3, f4⟩ := e2'.getV f1
    obtain ⟨d', f5, f6⟩ := e4.getV f2
    obtain ⟨Hs2, r2, rp, g⟩ := pair_it r nT (Rp.mono e f4) (Rp.mono e f6)
    exact ⟨Hs2, _, zip_get f3 f5, r2, rp, g⟩
/-- a text, sign by sign -/
def signs (z : Str) : List D := z.cps.toList.map fun c => .str ⟨#[c]⟩
def dStr (a : DT) : DI := fun s Q => a s fun d s1 => match d with
  | .str z => Q (signs z) s1
  | _ => False
theorem simI_str (h : Sim C ca te t) : SimI C (iStr te) (dStr t) := by
  refine ⟨fun H0 S0 Hs σ H s Q Q' r q k => h.toE.run H0 S0 Hs σ H s _ _ r q fun Hs1 H1 v d s1 g1 r1 v1 q1 => ?_⟩
  cases d <;> first | exact q1.elim | skip
  rename_i z
  cases v1
  refine ⟨z, rfl, k Hs1 H1 _ _ s1 g1 r1 ?_ q1⟩
  have hl : (signs z).length = z.cps.size := by unfold signs; rw [List.length_map, Array.length_toList]
  refine ⟨_, _, by rw [hl]; exact walk_str, fun H e => True.intro, fun i H v H2 H0 S0 Hs σ s hi r e y => ?_⟩
  obtain ⟨rfl, c, e1, rfl⟩ := y
  refine ⟨Hs, .str ⟨#[c]⟩, ?_, r, Rp.str _, Go.refl⟩
  unfold signs
  rw [List.getElem?_map, Array.getElem?_toList, e1]
  rfl
/-! ### for, while -/
theorem R.base {H0 S0 Hs : Hp} {σ : L2.St} {H : Hp} {s : S} (r : R C H0 S0 Hs σ H s) : R C H0 Hs Hs σ H s :=
  ⟨r.len, r.sub, r.slot, r.mt, r.dead, r.sep, r.pn, r.br, Same.refl _, r.h0, fun _ h1 h2 => absurd h1 h2⟩
theorem R.back {H0 S0 Hs1 Hs : Hp} {σ1 σ : L2.St} {H1 H : Hp} {s1 s : S} (r1 : R C H0 S0 Hs1 σ1 H1 s1) (r : R C H0 Hs1 Hs σ H s) : R C H0 S0 Hs σ H s := by
  refine ⟨r.len, r.sub, r.slot, r.mt, r.dead, r.sep, r.pn, r.br, r1.s0.trans r.s0, r.h0, fun b e1 e2 => ?_⟩
  cases q : Hs1 b with
  | some o => exact r1.new b e1 (by rw [q]; exact fun z => nomatch z)
  | none => exact r.new b q e2
def forD (g : D → S → (S → Prop) → Prop) (b : DSt) (E : DEnds) : List D → S → Prop
  | [], s => E.nx s
  | d :: ds, s => g d s fun s1 => b { E with nx := forD g b E ds, ct := forD g b E ds, bk := E.nx } s1
def dFor (it : DI) (g : D → S → (S → Prop) → Prop) (b : DSt) : DSt := fun E s => it s fun items s1 => forD g b E items s1
theorem simS_for {wi : TI} {it : DI} {tl : List Nat} {g : TG} {x : D → S → (S → Prop) → Prop} (hi : SimI C wi it) (hg : SimG C tl g x) (hb : SimS C cat ts a) : SimS C cat (tFor wi g ts) (dFor it x a) := by
  refine ⟨fun H0 S0 Hs σ H s E D' r q k => hi.run H0 S0 Hs σ H s _ _ r q fun Hs1 H1 J items s1 g1 r1 io q1 => ?_⟩
  obtain ⟨G, Y, W, hG, hY⟩ := io
  refine for_it W (fun i σ H => ∃ Hs s, R C H0 Hs1 Hs σ H s ∧ forD x a E (items.drop i) s) ⟨Hs1, s1, r1.base, q1⟩ (fun i σ H _ ⟨Hs, s, r, _⟩ => hG H (r.s0.trans r.sub)) (fun i v σ H H' hi' ⟨Hs, s, r, q⟩ y => ?_) (fun σ H ⟨Hs, s, r, q⟩ => ?_)
  · obtain ⟨Hs2, d, e1, r2, rp, _⟩ := hY i H v H' H0 Hs1 Hs σ s hi' r r.s0 y
    rw [List.drop_eq_getElem_cons hi'] at q
    have ed : items[i] = d := by
      rw [List.getElem?_eq_getElem hi'] at e1
      exact Option.some.inj e1
    rw [ed] at q
    refine hg.run H0 Hs1 Hs2 σ H' s v d _ _ r2 rp q fun σ3 s3 r3 _ _ q3 => ?_
    refine hb.run H0 Hs1 Hs2 σ3 H' s3 _ _ r3 q3 ⟨fun Hs σ H s r q => ⟨Hs, s, r, q⟩, fun Hs σ H s v d r rv q => k.rt Hs σ H s v d (r1.back r) rv q, fun Hs σ H s r q => k.nx Hs σ H s (r1.back r) q, fun Hs σ H s r q => ⟨Hs, s, r, q⟩⟩
  · rw [List.drop_length] at q
    exact k.nx Hs σ H s (r1.back r) q
def dWhile (c : DB) (b : DSt) : DSt := fun E s => ∃ W : Nat → S → Prop, (∃ m, W m s) ∧ ∀ m s, W m s → c s fun k s1 => if k = true then b { E with nx := fun s' => ∃ m', m' < m ∧ W m' s', ct := fun s' => ∃ m', m' < m ∧ W m' s', bk := E.nx } s1 else E.nx s1
theorem simS_while {tt : TT} {c : DB} (hc : SimT C tt c) (hb : SimS C cat ts a) : SimS C cat (tWhile tt ts) (dWhile c a) := by
  refine ⟨fun H0 S0 Hs σ H s E D' r q k => ?_⟩
  obtain ⟨W, ⟨m0, w0⟩, turn⟩ := q
  refine ⟨fun m σ H => ∃ Hs s, R C H0 S0 Hs σ H s ∧ W m s, ⟨m0, Hs, s, r, w0⟩, fun m σ H ⟨Hs, s, r, w⟩ => ?_⟩
  refine hc.run H0 S0 Hs σ H s _ _ r (turn m s w) fun Hs1 H1 c s1 g1 r1 q1 => ?_
  cases c with
  | true =>
    refine ifp rfl ⟨fun σ' H' => ∃ m', m' < m ∧ ∃ Hs s, R C H0 S0 Hs σ' H' s ∧ W m' s, fun _ _ h => h, ?_⟩
    rw [if_pos rfl] at q1
    exact hb.run H0 S0 Hs1 σ H1 s1 _ _ r1 q1 ⟨fun Hs σ H s r ⟨m', h1, h2⟩ => ⟨m', h1, Hs, s, r, h2⟩, k.rt, k.nx, fun Hs σ H s r ⟨m', h1, h2⟩ => ⟨m', h1, Hs, s, r, h2⟩⟩
  | false => exact ifn Bool.false_ne_true (k.nx Hs1 σ H1 s1 r1 (by simpa using q1))
/-- a list or dict of the def's own goes into the still part from here on -/
theorem R.still {H0 S0 Hs : Hp} {σ : L2.St} {H : Hp} {s : S} {i : Nat} {M' : List Nat} (r : R C H0 S0 Hs σ H s) (hM : ∀ j, j ∈ C.M ↔ j = i ∨ j ∈ M') (hn : i ∉ M') (hb : i ∉ C.bs) : ∃ Hs', R { C with M := M' } H0 S0 Hs' σ H s := by
  have hi : i ∈ C.M := (hM i).mpr (.inl rfl)
  have br : ∀ b, b ∈ C.bor → (∃ j, j ∈ C.bs ∧ j ∈ M' ∧ σ[j]? = some (some (.ref b))) ∧ H0 b ≠ none := fun b hb' => by
    obtain ⟨⟨j, b1, b2, b3⟩, b4⟩ := r.br b hb'
    exact ⟨⟨j, b1, ((hM j).mp b2).resolve_left (fun z => hb (by rw [← z]; exact b1)), b3⟩, b4⟩
  by_cases hl : ∃ d, s.δ[i]? = some (some d)
  · obtain ⟨d, e⟩ := hl
    obtain ⟨x, u, e1, e2, e3, e4, e5⟩ := r.mt i d e hi
    have e5 : H0 x = none := by
      rcases e5 with e5 | e5
      · exact e5
      · obtain ⟨⟨j, b1, b2, b3⟩, _⟩ := r.br x e5
        exact absurd (by rw [← r.sep j i x b2 hi b3 e1]; exact b1) hb
    have sm : Same Hs (L2.upd Hs x u) := same_upd e3
    refine ⟨L2.upd Hs x u, r.len, fun b o q => ?_, fun j d' q m => ?_, fun j d' q m => ?_, fun j m q => r.dead j ((hM j).mpr (.inr m)) q, fun j l y m1 m2 => r.sep j l y ((hM j).mpr (.inr m1)) ((hM l).mpr (.inr m2)), fun p c q => ?_, br, r.s0.trans sm, r.h0, fun b q1 q2 => ?_⟩
    · by_cases z : b = x
      · subst z; rw [upd_same] at q; cases q; exact e2
      · rw [upd_ne z] at q; exact r.sub _ _ q
    · by_cases hj : j = i
      · subst hj
        rw [e] at q
        cases q
        exact ⟨_, e1, (e4.mono sm).rp upd_same⟩
      · obtain ⟨v, f1, f2⟩ := r.slot j d' q (fun z => ((hM j).mp z).elim hj m)
        exact ⟨v, f1, Rp.mono sm f2⟩
    · obtain ⟨y, w, f2, f3, f4, f5, f6⟩ := r.mt j d' q ((hM j).mpr (.inr m))
      refine ⟨y, w, f2, f3, ?_, f5.mono sm, f6⟩
      rw [upd_ne (fun z => by subst z; exact hn ((r.sep j i y ((hM j).mpr (.inr m)) hi f2 e1) ▸ m))]
      exact f4
    · obtain ⟨f1, f2, f3, f4, f5, f6, f7, f8⟩ := r.pn p c q
      refine ⟨f1, f2, ?_, f4, f5, f6, fun z => f7 ((hM _).mpr (.inr z)), f8⟩
      rw [upd_ne (fun z => f4 (by rw [z]; exact e5))]
      exact f3
    · by_cases z : b = x
      · subst z; exact e5
      · rw [upd_ne z] at q2; exact r.new b q1 q2
  · refine ⟨Hs, r.len, r.sub, fun j d' q m => ?_, fun j d' q m => r.mt j d' q ((hM j).mpr (.inr m)), fun j m q => r.dead j ((hM j).mpr (.inr m)) q, fun j l y m1 m2 => r.sep j l y ((hM j).mpr (.inr m1)) ((hM l).mpr (.inr m2)), fun p c q => ?_, br, r.s0, r.h0, r.new⟩
    · exact r.slot j d' q (fun z => ((hM j).mp z).elim (fun e => hl ⟨d', by rw [← e]; exact q⟩) m)
    · obtain ⟨f1, f2, f3, f4, f5, f6, f7, f8⟩ := r.pn p c q
      exact ⟨f1, f2, f3, f4, f5, f6, fun z => f7 ((hM _).mpr (.inr z)), f8⟩
end

/-! ### comprehensions -/
def wipeL (δ : List (Option D)) : List Nat → List (Option D)
  | [] => δ
  | v :: vs => (wipeL δ vs).set v none
def wipeS (s : S) (vs : List Nat) : S := { s with δ := wipeL s.δ vs }
theorem wipeL_length (δ : List (Option D)) : ∀ vs : List Nat, (wipeL δ vs).length = δ.length
  | [] => rfl
  | v :: vs => by unfold wipeL; rw [List.length_set, wipeL_length δ vs]
theorem wipeL_out {δ : List (Option D)} {i : Nat} : ∀ {vs : List Nat}, i ∉ vs → (wipeL δ vs)[i]? = δ[i]?
  | [], _ => rfl
  | v :: vs, h => by
    unfold wipeL
    rw [List.mem_cons, not_or] at h
    rw [List.getElem?_set_ne (Ne.symm h.1)]
    exact wipeL_out h.2
theorem wipeL_in {δ : List (Option D)} {i : Nat} : ∀ {vs : List Nat}, i ∈ vs → ∀ d, (wipeL δ vs)[i]? ≠ some (some d)
  | v :: vs, h, d => by
    unfold wipeL
    by_cases hv : v = i
    · subst hv
      intro q
      have il : v < (wipeL δ vs).length := by
        have := (List.getElem?_eq_some_iff.mp q).1
        simpa using this
      rw [List.getElem?_set_self il] at q
      cases q
    · rw [List.getElem?_set_ne hv]
      exact wipeL_in ((List.mem_cons.mp h).resolve_left (Ne.symm hv)) d
theorem wipe_eq {σ σ' : L2.St} {vs : List Nat} (hl : σ'.length = σ.length) (h : ∀ j, j ∉ vs → σ'[j]? = σ[j]?) : wipe σ' vs = wipe σ vs := by
  apply List.ext_getElem?
  intro i
  by_cases hi : i ∈ vs
  · have z : ∀ (τ : L2.St), i < τ.length → (wipe τ vs)[i]? = some none := fun τ ht => by
      have hl : i < (wipe τ vs).length := by rw [wipe_length]; exact ht
      rw [List.getElem?_eq_getElem hl]
      cases q : (wipe τ vs)[i] with
      | none => rfl
      | some v =>
        have := wipe_some (σ := τ) (vs := vs) (i := i) (x := v) (by rw [List.getElem?_eq_getElem hl, q])
        exact absurd hi this.2
    by_cases hx : i < σ.length
    · rw [z σ hx, z σ' (by rw [hl]; exact hx)]
    · rw [List.getElem?_eq_none (by rw [wipe_length, hl]; omega), List.getElem?_eq_none (by rw [wipe_length]; omega)]
  · rw [wipe_out hi, wipe_out hi]
    exact h i hi
section
variable {C : Cf} {cat : Cat} {te ta tb : TE} {t da db : DT} {ca cb : Cat}
theorem R.wipe {H0 S0 Hs : Hp} {σ : L2.St} {H : Hp} {s : S} {vs : List Nat} (r : R C H0 S0 Hs σ H s) (hM : ∀ v ∈ vs, v ∉ C.M) (hp : ∀ v ∈ vs, v ≠ C.ps) : R C H0 S0 Hs (L2.wipe σ vs) H (wipeS s vs) := by
  have out : ∀ j, j ∈ C.M → j ∉ vs := fun j m z => hM j z m
  have e1 : ∀ j, j ∉ vs → (wipeS s vs).δ[j]? = s.δ[j]? := fun j h => wipeL_out h
  refine ⟨by rw [wipe_length]; exact r.len.trans (wipeL_length s.δ vs).symm, r.sub, fun j d q m => ?_, fun j d q m => ?_, fun j m q => ?_, fun j l y m1 m2 q1 q2 => ?_, fun p c q => ?_, fun b hb => ?_, r.s0, r.h0, r.new⟩
  · by_cases hj : j ∈ vs
    · exact absurd q (wipeL_in hj d)
    · rw [e1 j hj] at q
      rw [wipe_out hj]
      exact r.slot j d q m
  · rw [e1 j (out j m)] at q
    rw [wipe_out (out j m)]
    exact r.mt j d q m
  · rw [e1 j (out j m)] at q
    rw [wipe_out (out j m)]
    exact r.dead j m q
  · rw [wipe_out (out j m1)] at q1
    rw [wipe_out (out l m2)] at q2
    exact r.sep j l y m1 m2 q1 q2
  · obtain ⟨f1, f2, f3, f4, f5, f6, f7⟩ := r.pn p c q
    have hn : C.ps ∉ vs := fun z => hp _ z rfl
    exact ⟨by rw [wipe_out hn]; exact f1, f2, f3, f4, f5, by rw [e1 _ hn]; exact f6, f7⟩
  · obtain ⟨⟨j, b1, b2, b3⟩, b4⟩ := r.br b hb
    exact ⟨⟨j, b1, b2, by rw [wipe_out (out j b2)]; exact b3⟩, b4⟩
theorem R.unwipe {H0 S0 Hs : Hp} {σ : L2.St} {H : Hp} {s : S} {vs : List Nat} (r : R C H0 S0 Hs (L2.wipe σ vs) H s) (hM : ∀ v ∈ vs, v ∉ C.M) (hp : ∀ v ∈ vs, v ≠ C.ps) (hn : ∀ v ∈ vs, ∀ d, s.δ[v]? ≠ some (some d)) : R C H0 S0 Hs σ H s := by
  have out : ∀ j, j ∈ C.M → j ∉ vs := fun j m z => hM j z m
  refine ⟨by rw [← wipe_length σ vs]; exact r.len, r.sub, fun j d q m => ?_, fun j d q m => ?_, fun j m q => ?_, fun j l y m1 m2 q1 q2 => ?_, fun p c q => ?_, fun b hb => ?_, r.s0, r.h0, r.new⟩
  · by_cases hj : j ∈ vs
    · exact absurd q (hn j hj d)
    · have := r.slot j d q m
      rw [wipe_out hj] at this
      exact this
  · have := r.mt j d q m
    rw [wipe_out (out j m)] at this
    exact this
  · have := r.dead j m q
    rw [wipe_out (out j m)] at this
    exact this
  · rw [← wipe_out (vs := vs) (out j m1)] at q1
    rw [← wipe_out (vs := vs) (out l m2)] at q2
    exact r.sep j l y m1 m2 q1 q2
  · obtain ⟨f1, f⟩ := r.pn p c q
    rw [wipe_out (fun z => hp _ z rfl)] at f1
    exact ⟨f1, f⟩
  · obtain ⟨⟨j, b1, b2, b3⟩, b4⟩ := r.br b hb
    rw [wipe_out (out j b2)] at b3
    exact ⟨⟨j, b1, b2, b3⟩, b4⟩
theorem Go.own {σ σ' : L2.St} {Hs H Hs' H' : Hp} (g : Go C σ Hs H Hs' H') (h : ∀ b, Own C σ b → Own C σ' b) : Go C σ' Hs H Hs' H' :=
  ⟨g.st, fun b o e n m => g.kp b o e (fun z => n (h b z)) m, g.th, g.nw⟩
theorem own_of {σ σ' : L2.St} {vs : List Nat} (hM : ∀ v ∈ vs, v ∉ C.M) (h : ∀ j, j ∉ vs → σ'[j]? = σ[j]?) : ∀ b, Own C σ' b → Own C σ b := fun b ⟨i, m, e⟩ => ⟨i, m, by rw [← h i (fun z => hM i z m)]; exact e⟩
theorem R.updF {H0 S0 Hs : Hp} {σ : L2.St} {H : Hp} {s : S} {x : Addr} {o : HO} (r : R C H0 S0 Hs σ H s) (h1 : Hs x = none) (h2 : H0 x = none) (h3 : ¬ Own C σ x) : R C H0 S0 Hs σ (L2.upd H x o) s := by
  have sm : ∀ b u, b ≠ x → H b = some u → L2.upd H x o b = some u := fun b u n q => by rw [upd_ne n]; exact q
  refine ⟨r.len, fun b u q => sm b u (fun z => by subst z; rw [h1] at q; cases q) (r.sub b u q), r.slot, fun j d q m => ?_, r.dead, r.sep, fun p c q => ?_, r.br, r.s0, fun b u n q => sm b u (fun z => by subst z; rw [h2] at q; cases q) (r.h0 b u n q), r.new⟩
  · obtain ⟨y, w, f2, f3, f4⟩ := r.mt j d q m
    exact ⟨y, w, f2, sm y _ (fun z => h3 ⟨j, m, by rw [← z]; exact f2⟩) f3, f4⟩
  · obtain ⟨f1, f2, f3, f4, f5, f6⟩ := r.pn p c q
    exact ⟨f1, f2.but (q := x) (fun b u n q => sm b u n q) (fun z => f4 (z ▸ h2)) (fun z => f5 (z ▸ h2)), f3, f4, f5, f6⟩
def lcD (g : D → S → (S → Prop) → Prop) (c : DB) (e : DT) (vs : List Nat) (Q : List D → S → Prop) : List D → List D → S → Prop
  | [], acc, s => Q acc s
  | d :: ds, acc, s => g d s fun s1 => c s1 fun k s2 => if k = true then e s2 fun y s3 => lcD g c e vs Q ds (acc ++ [y]) (wipeS s3 vs) else lcD g c e vs Q ds acc (wipeS s2 vs)
def dLc (it : DI) (g : D → S → (S → Prop) → Prop) (c : DB) (e : DT) (vs : List Nat) : DT := fun s Q => it s fun items s1 => items.length ≤ sizeLine ∧ lcD g c e vs (fun acc s2 => Q (.list acc) s2) items [] (wipeS s1 vs)
def dYes : DB := fun s Q => Q true s
theorem simT_yes : SimT C tYes dYes := ⟨fun H0 S0 Hs σ H s Q Q' r q k => k Hs H true s Go.refl r q⟩
theorem Go.updF {σ : L2.St} {Hs H Hs' H' : Hp} {x : Addr} {o : HO} (g : Go C σ Hs H Hs' H') (h : H x = none) : Go C σ Hs H Hs' (L2.upd H' x o) := by
  refine ⟨g.st, fun b u q n m => ?_, fun b u q => ?_, g.nw⟩
  · rw [upd_ne (ne_of_none q h)]
    exact g.kp b u q n m
  · obtain ⟨u', h'⟩ := g.th b u q
    exact ⟨u', by rw [upd_ne (ne_of_none q h)]; exact h'⟩
theorem sim_lc {wi : TI} {it : DI} {tl vs : List Nat} {g : TG} {x : D → S → (S → Prop) → Prop} {tt : TT} {c : DB} (hi : SimI C wi it) (hg : SimG C tl g x) (ht : SimT C tt c) (he : Sim C ca te t) (hv : ∀ j, j ∈ tl → j ∈ vs) (hM : ∀ v ∈ vs, v ∉ C.M) (hp : ∀ v ∈ vs, v ≠ C.ps) :
    Sim C .F (tLc wi g tt te vs) (dLc it x c t vs) := by
  refine ⟨fun H0 S0 Hs σ H s Q Q' r q k => hi.run H0 S0 Hs σ H s _ _ r q fun Hs1 H1 J items s1 g1 r1 io q1 => fun L nL => ?_⟩
  obtain ⟨hz, q1⟩ := q1
  obtain ⟨G, Y, W, hG, hY⟩ := io
  obtain ⟨l0, l1, l2, l3⟩ := r1.free0 nL
  have ow : ∀ b, Own C (L2.wipe σ vs) b → Own C σ b := own_of hM fun j h => wipe_out h
  have lw : ¬ Own C (L2.wipe σ vs) L := fun z => l2 (ow L z)
  refine lc_it W (fun i H => ∃ Hs s accV accD, R C H0 Hs1 Hs (L2.wipe σ vs) H s ∧ H L = some (.lst accV) ∧ Hs L = none ∧ RpAll C.K Hs accV accD ∧ accD.length ≤ i ∧ Go C σ Hs1 H1 Hs H ∧ (∀ v ∈ vs, ∀ d, s.δ[v]? ≠ some (some d)) ∧ lcD x c t vs (fun acc s2 => Q (.list acc) s2) (items.drop i) accD s)
    ⟨Hs1, wipeS s1 vs, [], [], ((r1.laid nL).wipe hM hp).base, upd_same, l1, .nil, Nat.le_refl _, Go.laid nL, fun v m d => wipeL_in m d, q1⟩ (fun i H _ ⟨Hs, s, _, _, r, _⟩ => hG H (r.s0.trans r.sub)) (fun i v H H' hi' ⟨Hs, s, accV, accD, r, hL, hsL, ra, la, ga, _, q⟩ y => ?_) (fun H ⟨Hs, s, accV, accD, r, hL, hsL, ra, la, ga, hn, q⟩ => ?_)
  · obtain ⟨Hs2, d, e1, r2, rp, g2⟩ := hY i H v H' H0 Hs1 Hs (L2.wipe σ vs) s hi' r r.s0 y
    rw [List.drop_eq_getElem_cons hi'] at q
    have ed : items[i] = d := by
      rw [List.getElem?_eq_getElem hi'] at e1
      exact Option.some.inj e1
    rw [ed] at q
    have hL2 := g2.kp L _ hL lw l3
    have hsL2 := none_of_new g2.nw hsL hL
    refine hg.run H0 Hs1 Hs2 (L2.wipe σ vs) H' s v d _ _ r2 rp q fun σ3 s3 r3 len3 out3 q3 => ?_
    have out3' : ∀ j, j ∉ vs → σ3[j]? = σ[j]? := fun j h => (out3 j (fun z => h (hv j z))).trans (wipe_out h)
    have wq : L2.wipe σ3 vs = L2.wipe σ vs := wipe_eq (by rw [len3, wipe_length]) out3'
    have ow3 : ∀ b, Own C σ3 b → Own C σ b := own_of hM out3'
    have lw3 : ¬ Own C σ3 L := fun z => l2 (ow3 L z)
    refine ⟨wq, ht.run H0 Hs1 Hs2 σ3 H' s3 _ _ r3 q3 fun Hs4 H4 b4 s4 g4 r4 q4 => ?_⟩
    have hL4 := g4.kp L _ hL2 lw3 l3
    have hsL4 := none_of_new g4.nw hsL2 hL2
    have ga4 : Go C σ Hs1 H1 Hs4 H4 := ga.trans ((g2.own ow).trans (g4.own ow3))
    cases b4 with
    | true =>
      refine ifp rfl (he.toE.run H0 Hs1 Hs4 σ3 H4 s4 _ _ r4 (by simpa using q4) fun Hs5 H5 w dw s5 g5 r5 v5 q5 => ?_)
      have hL5 := g5.kp L _ hL4 lw3 l3
      have hsL5 := none_of_new g5.nw hsL4 hL4
      have ra5 := RpAll.mono (g2.st.trans (g4.st.trans g5.st)) ra
      refine ⟨accV, hL5, by rw [ra5.len]; omega, Hs5, wipeS s5 vs, _, accD ++ [dw], ?_, upd_same, hsL5, ra5.app (.cons v5 .nil), by rw [List.length_append]; show accD.length + 1 ≤ i + 1; omega, (ga4.trans (g5.own ow3)).updF nL, fun v m d => wipeL_in m d, q5⟩
      rw [← wq]
      exact (r5.updF hsL5 l0 lw3).wipe hM hp
    | false =>
      refine ifn Bool.false_ne_true ⟨Hs4, wipeS s4 vs, accV, accD, ?_, hL4, hsL4, RpAll.mono (g2.st.trans g4.st) ra, by omega, ga4, fun v m d => wipeL_in m d, by simpa using q4⟩
      rw [← wq]
      exact r4.wipe hM hp
  · rw [List.drop_length] at q
    refine k Hs H _ (.list accD) s (g1.trans ga) (r1.back (r.unwipe hM hp hn)) (Val.mkC ⟨_, hL, hsL, l0, g1.back L nL, .lst ra, l2⟩) q
end
theorem rvNon {K : PySem.W.Frag} {H0 Hs H : Hp} (cat : Cat) : RV K H0 Hs H cat .non .none := by
  cases cat with
  | E => exact Rp.non
  | F => simp only [RV, isC, if_neg Bool.false_ne_true]; exact Rp.non
/-! ### the end of a body: a list of the def's own may go into the still part -/
structure SimE (C : Cf) (cat : Cat) (ts : TS) (t : DSt) : Prop where
  run : ∀ (H0 S0 Hs : Hp) (σ : L2.St) (H : Hp) (s : S) (E : DEnds) (D' : Ends), R C H0 S0 Hs σ H s → t E s →
    (∀ M' Hs σ H s, R { C with M := M' } H0 S0 Hs σ H s → E.nx s → D'.nx σ H) → (∀ M' Hs σ H s v d, R { C with M := M' } H0 S0 Hs σ H s → RV C.K H0 Hs H cat v d → E.rt d s → D'.rt v H) →
    (∀ Hs σ H s, R C H0 S0 Hs σ H s → E.bk s → D'.bk σ H) → (∀ Hs σ H s, R C H0 S0 Hs σ H s → E.ct s → D'.ct σ H) → ts D' σ H
section
variable {C : Cf} {cat : Cat} {ts us : TS} {a b : DSt}
theorem SimS.e (h : SimS C cat ts a) : SimE C cat ts a :=
  ⟨fun H0 S0 Hs σ H s E D' r q k1 k2 k3 k4 => h.run H0 S0 Hs σ H s E D' r q ⟨fun Hs σ H s r q => k1 C.M Hs σ H s r q, fun Hs σ H s v d r rv q => k2 C.M Hs σ H s v d r rv q, k3, k4⟩⟩
theorem simE_seq (ha : SimS C cat ts a) (hb : SimE C cat us b) : SimE C cat (tSeq ts us) (dSeq a b) :=
  ⟨fun H0 S0 Hs σ H s E D' r q k1 k2 k3 k4 => ha.run H0 S0 Hs σ H s _ _ r q ⟨fun Hs σ H s r q => hb.run H0 S0 Hs σ H s E D' r q k1 k2 k3 k4, fun Hs σ H s v d r rv q => k2 C.M Hs σ H s v d r rv q, k3, k4⟩⟩
/-- from here on slot i is still; behind this no break or continue -/
theorem simE_still (i : Nat) (M' : List Nat) (hM : ∀ j, j ∈ C.M ↔ j = i ∨ j ∈ M') (hn : i ∉ M') (hb : i ∉ C.bs) (h : SimE { C with M := M' } cat us b) : SimE C cat us (fun E s => b { E with bk := fun _ => False, ct := fun _ => False } s) := by
  refine ⟨fun H0 S0 Hs σ H s E D' r q k1 k2 k3 k4 => ?_⟩
  obtain ⟨Hs', r'⟩ := r.still hM hn hb
  exact h.run H0 S0 Hs' σ H s _ D' r' q (fun M2 Hs σ H s r q => k1 M2 Hs σ H s r q) (fun M2 Hs σ H s v d r rv q => k2 M2 Hs σ H s v d r rv q) (fun _ _ _ _ _ z => z.elim) (fun _ _ _ _ _ z => z.elim)
end

/-! ### a def's promise from its body -/
def start' (n : Nat) (ds : List D) : List (Option D) := ds.map some ++ List.replicate (n - ds.length) none
section
variable {P : Program} {w : World} {K : PySem.W.Frag} {mg : Str → Option Value} {base : Heap}
theorem start_slot {vs : List V} {ds : List D} {H : Hp} (N : List Str) (h : RpAll K H vs ds) : (L2.start N vs).length = (start' N.length ds).length ∧ ∀ (i : Nat) (d : D), (start' N.length ds)[i]? = some (some d) → ∃ v, (L2.start N vs)[i]? = some (some v) ∧ Rp K H v d := by
  refine ⟨?_, fun i d e => ?_⟩
  · unfold L2.start start'
    rw [List.length_append, List.length_append, List.length_map, List.length_map, List.length_replicate, List.length_replicate, h.len]
  · unfold start' at e
    by_cases hi : i < ds.length
    · rw [List.getElem?_append_left (by simpa using hi), List.getElem?_map] at e
      cases q : ds[i]? with
      | none => rw [q] at e; cases e
      | some d' =>
        rw [q] at e
        cases e
        obtain ⟨v, e1, e2⟩ := h.get q
        refine ⟨v, ?_, e2⟩
        unfold L2.start
        rw [List.getElem?_append_left (by rw [List.length_map, h.len]; exact hi), List.getElem?_map, e1]
        rfl
    · rw [List.getElem?_append_right (by simpa using hi)] at e
      rw [List.getElem?_replicate] at e
      split at e
      · cases e
      · cases e
theorem start_none {vs : List V} (N : List Str) {i : Nat} (h1 : vs.length ≤ i) (h2 : i < N.length) : (L2.start N vs)[i]? = some none := by
  unfold L2.start
  rw [List.getElem?_append_right (by simpa using h1), List.getElem?_replicate, List.length_map, if_pos (by omega)]
/-- a def without a pen -/
theorem Ok.ofNE {x : Str} {st : Stmt} {N ps : List Str} {k n : Nat} {cat : Cat} {M : List Nat} {F : DF} (D' : Df K mg x st ps) (S' : FnScope N ps (defScope st)) (hn : ps.length = n) (hM : ∀ i ∈ M, n ≤ i ∧ i < N.length)
    (hbody : ∀ (f : Addr) (cdv : Value) (A : Around) (outer : List Env) (s : Shared) (H : Hp) (E : XK), Rm k (A.deeper (envOfC x (defScope st) s.heap.objs.size f cdv)) →
      ∃ t d, PSs (cxOf CX0 P w K mg base N x (defScope st) f cdv A outer s H E).nox (defBody st) t ∧ SimE { K := K, pen := none, ps := 1000, M := M } cat t d ∧ ∀ ds (Q : D → Prop), ds.length = n → F ds Q → d { nx := fun _ => Q .none, rt := fun z _ => Q z } { δ := start' N.length ds, n := 0 }) :
    Ok P w K mg base (k + 1) x ps (spN K n cat F) := by
  refine Ok.mk D' S' (fun vs H Q E h => ?_) (fun f cdv A outer s H vs Q E hr h => ?_)
  · obtain ⟨Hs, ds, Q0, _, h2, h3, _⟩ := h
    rw [h2.len, h3, hn]
  obtain ⟨Hs, ds, Q0, h1, h2, h3, h4, h5⟩ := h
  obtain ⟨t, d, ht, hs, hd⟩ := hbody f cdv A outer s H E hr
  refine ⟨t, ht, ?_⟩
  obtain ⟨sl, ss⟩ := start_slot N h2
  refine hs.run H Hs Hs (L2.start N vs) H _ { nx := fun _ => Q0 .none, rt := fun z _ => Q0 z } _ ?_ (hd ds Q0 h3 h4) (fun M' Hs' σ' H' s' r q => ?_) (fun M' Hs' σ' H' s' v dd r rv q => ?_) (fun _ _ _ _ _ q => q.elim) (fun _ _ _ _ _ q => q.elim)
  · refine ⟨sl, h1, fun i dd e m => ss i dd e, fun i dd e m => ?_, fun i m e => start_none N (by rw [h2.len, h3]; exact (hM i m).1) (hM i m).2, fun i j a m1 m2 e1 e2 => ?_, fun p c e => (nomatch e), fun b hb => (nomatch hb), Same.refl _, fun b o _ e => e, fun b e1 e2 => absurd e1 e2⟩
    · obtain ⟨v, e1, _⟩ := ss i dd e
      rw [start_none N (by rw [h2.len, h3]; exact (hM i m).1) (hM i m).2] at e1
      cases e1
    · rw [start_none N (by rw [h2.len, h3]; exact (hM i m1).1) (hM i m1).2] at e1
      cases e1
  · exact h5 .none Hs' H' .non q r.s0 r.sub (fun b o e => r.h0 b o (fun z => z.elim (fun ⟨_, z⟩ => nomatch z) (fun z => nomatch z)) e) r.new (rvNon cat)
  · exact h5 dd Hs' H' v q r.s0 r.sub (fun b o e => r.h0 b o (fun z => z.elim (fun ⟨_, z⟩ => nomatch z) (fun z => nomatch z)) e) r.new rv
/-- the same, no list of its own goes still -/
theorem Ok.ofN {x : Str} {st : Stmt} {N ps : List Str} {k n : Nat} {cat : Cat} {M : List Nat} {F : DF} (D' : Df K mg x st ps) (S' : FnScope N ps (defScope st)) (hn : ps.length = n) (hM : ∀ i ∈ M, n ≤ i ∧ i < N.length)
    (hbody : ∀ (f : Addr) (cdv : Value) (A : Around) (outer : List Env) (s : Shared) (H : Hp) (E : XK), Rm k (A.deeper (envOfC x (defScope st) s.heap.objs.size f cdv)) →
      ∃ t d, PSs (cxOf CX0 P w K mg base N x (defScope st) f cdv A outer s H E).nox (defBody st) t ∧ SimS { K := K, pen := none, ps := 1000, M := M } cat t d ∧ ∀ ds (Q : D → Prop), ds.length = n → F ds Q → d { nx := fun _ => Q .none, rt := fun z _ => Q z } { δ := start' N.length ds, n := 0 }) :
    Ok P w K mg base (k + 1) x ps (spN K n cat F) := by
  exact Ok.ofNE D' S' hn hM fun f cdv A outer s H E hr => by
    obtain ⟨t, d, h1, h2, h3⟩ := hbody f cdv A outer s H E hr
    exact ⟨t, d, h1, h2.e, h3⟩
/-- a def with a pen, its first parameter -/
theorem Ok.ofPE {x : Str} {st : Stmt} {N ps : List Str} {k n : Nat} {cat : Cat} {M : List Nat} {F : DFP} (D' : Df K mg x st ps) (S' : FnScope N ps (defScope st)) (hn : ps.length = n + 1) (hM : ∀ i ∈ M, n + 1 ≤ i ∧ i < N.length) (hN : 0 < N.length)
    (hbody : ∀ (f : Addr) (cdv : Value) (A : Around) (outer : List Env) (s : Shared) (H : Hp) (E : XK) (p c : Addr), Rm k (A.deeper (envOfC x (defScope st) s.heap.objs.size f cdv)) →
      ∃ t d, PSs (cxOf CX0 P w K mg base N x (defScope st) f cdv A outer s H E).nox (defBody st) t ∧ SimE { K := K, pen := some (p, c), ps := 0, M := M } cat t d ∧ ∀ ds m (Q : D → Nat → Prop), ds.length = n → F ds m Q → d { nx := fun s => Q .none s.n, rt := fun z s => Q z s.n } { δ := none :: start' (N.length - 1) ds, n := m }) :
    Ok P w K mg base (k + 1) x ps (spP K n cat F) := by
  refine Ok.mk D' S' (fun vs H Q E h => ?_) (fun f cdv A outer s H vs Q E hr h => ?_)
  · obtain ⟨Hs, p, c, m, vs', ds, Q0, rfl, _, _, _, h2, h3, _⟩ := h
    rw [List.length_cons, h2.len, h3, hn]
  obtain ⟨Hs, p, c, m, vs', ds, Q0, rfl, pe, hsp, h1, h2, h3, h4, h5⟩ := h
  obtain ⟨t, d, ht, hs, hd⟩ := hbody f cdv A outer s H E p c hr
  refine ⟨t, ht, ?_⟩
  obtain ⟨N0, N', rfl⟩ : ∃ a b, N = a :: b := by
    cases N with
    | nil => exact absurd hN (by simp)
    | cons a b => exact ⟨a, b, rfl⟩
  obtain ⟨sl, ss⟩ := start_slot N' h2
  have es : L2.start (N0 :: N') (V.ref p :: vs') = some (.ref p) :: L2.start N' vs' := by
    unfold L2.start
    rw [List.map_cons, List.length_cons, List.length_cons, Nat.add_sub_add_right]
    rfl
  have en : (N0 :: N').length - 1 = N'.length := by rw [List.length_cons]; rfl
  rw [en] at hd
  have nn : ∀ i, i ∈ M → (some (V.ref p) :: L2.start N' vs')[i]? = some none := fun i m => by
    have := hM i m
    rw [List.length_cons] at this
    obtain ⟨j, rfl⟩ : ∃ j, i = j + 1 := ⟨i - 1, by omega⟩
    show (L2.start N' vs')[j]? = some none
    exact start_none N' (by rw [h2.len, h3]; omega) (by omega)
  obtain ⟨a0, r0, ep, _⟩ := pe.pen
  obtain ⟨ns, ec⟩ := pe.cells
  rw [es]
  refine hs.run H Hs Hs _ H _ { nx := fun s => Q0 .none s.n, rt := fun z s => Q0 z s.n } _ ?_ (hd ds m Q0 h3 h4) (fun M' Hs' σ' H' s' r q => ?_) (fun M' Hs' σ' H' s' v dd r rv q => ?_) (fun _ _ _ _ _ q => q.elim) (fun _ _ _ _ _ q => q.elim)
  · refine ⟨by rw [List.length_cons, sl]; rfl, h1, fun i dd e _ => ?_, fun i dd e m => ?_, fun i m e => nn i m, fun i j a m1 m2 e1 e2 => ?_, fun p' c' e => ?_, fun b hb => (nomatch hb), Same.refl _, fun b o _ e => e, fun b e1 e2 => absurd e1 e2⟩
    · cases i with
      | zero => cases e
      | succ j => exact ss j dd e
    · cases i with
      | zero => cases e
      | succ j =>
        obtain ⟨v, e1, _⟩ := ss j dd e
        have := nn (j + 1) m
        have : (L2.start N' vs')[j]? = some none := this
        rw [this] at e1
        cases e1
    · rw [nn i m1] at e1
      cases e1
    · cases e
      exact ⟨rfl, pe, hsp, (by rw [ep]; simp), (by rw [ec]; simp), rfl, fun z => absurd (hM 0 z).1 (by omega), fun z => (nomatch z), fun z => (nomatch z)⟩
  · have ip : ∀ b, ¬ IsPen { K := K, pen := some (p, c), ps := 0, M := M' } b ↔ b ≠ p := fun b => ⟨fun h e => h (.inl ⟨c, by rw [e]⟩), fun h z => z.elim (fun ⟨c', e⟩ => h (by cases e; rfl)) (fun z => nomatch z)⟩
    obtain ⟨f1, f2, f3, _⟩ := r.pn p c rfl
    exact h5 .none s'.n Hs' H' .non q r.s0 r.sub (fun b o nb e => r.h0 b o ((ip b).mpr nb) e) r.new f3 f2 (rvNon cat)
  · have ip : ∀ b, ¬ IsPen { K := K, pen := some (p, c), ps := 0, M := M' } b ↔ b ≠ p := fun b => ⟨fun h e => h (.inl ⟨c, by rw [e]⟩), fun h z => z.elim (fun ⟨c', e⟩ => h (by cases e; rfl)) (fun z => nomatch z)⟩
    obtain ⟨f1, f2, f3, _⟩ := r.pn p c rfl
    exact h5 dd s'.n Hs' H' v q r.s0 r.sub (fun b o nb e => r.h0 b o ((ip b).mpr nb) e) r.new f3 f2 rv
/-- the same, no list of its own goes still -/
theorem Ok.ofP {x : Str} {st : Stmt} {N ps : List Str} {k n : Nat} {cat : Cat} {M : List Nat} {F : DFP} (D' : Df K mg x st ps) (S' : FnScope N ps (defScope st)) (hn : ps.length = n + 1) (hM : ∀ i ∈ M, n + 1 ≤ i ∧ i < N.length) (hN : 0 < N.length)
    (hbody : ∀ (f : Addr) (cdv : Value) (A : Around) (outer : List Env) (s : Shared) (H : Hp) (E : XK) (p c : Addr), Rm k (A.deeper (envOfC x (defScope st) s.heap.objs.size f cdv)) →
      ∃ t d, PSs (cxOf CX0 P w K mg base N x (defScope st) f cdv A outer s H E).nox (defBody st) t ∧ SimS { K := K, pen := some (p, c), ps := 0, M := M } cat t d ∧ ∀ ds m (Q : D → Nat → Prop), ds.length = n → F ds m Q → d { nx := fun s => Q .none s.n, rt := fun z s => Q z s.n } { δ := none :: start' (N.length - 1) ds, n := m }) :
    Ok P w K mg base (k + 1) x ps (spP K n cat F) := by
  exact Ok.ofPE D' S' hn hM hN fun f cdv A outer s H E p c hr => by
    obtain ⟨t, d, h1, h2, h3⟩ := hbody f cdv A outer s H E p c hr
    exact ⟨t, d, h1, h2.e, h3⟩
/-- the draws -/
structure TakeP (m : Int) (n : Nat) (Q : D → Nat → Prop) : Prop where
  hn : n ≤ 1000000000
  h0 : 0 < m
  h1 : m.natAbs < 2 ^ 9000
  k : ∀ r : Int, 0 ≤ r → r < m → Q (.int r) (n + 1)
def takeF : DFP := fun ds n Q => match ds with
  | [d] => (match d with
    | .int m => TakeP m n Q
    | _ => False)
  | _ => False
theorem ok_takeP {k : Nat} (h : Ok P w K mg base k "_law_take" ["_law_pen", "_law_many"] spTake) : Ok P w K mg base k "_law_take" ["_law_pen", "_law_many"] (spP K 1 .E takeF) := by
  refine h.imp fun vs H Q E h => ?_
  obtain ⟨Hs, p, c, m, vs', ds, Q0, rfl, pe, hsp, h1, h2, h3, h4, h5⟩ := h
  match vs', ds, h2 with
  | [v], [d], .cons hd .nil =>
    cases d <;> first | exact h4.elim | skip
    cases hd
    rename_i i
    obtain ⟨e1, e2, e3, e4⟩ := h4
    refine ⟨p, c, m, i, rfl, pe, e1, e2, e3, fun r H' r0 r1 bt pe' => ?_⟩
    refine h5 (.int r) (m + 1) Hs H' _ (e4 r r0 r1) (Same.refl _) (fun b o e => bt b o (fun z => by subst z; rw [hsp] at e; cases e) (h1 b o e)) bt (fun b q1 q2 => absurd q1 q2) hsp pe' (Rp.int r)
  | [], [], _ => exact h4.elim
  | _ :: _ :: _, _ :: _ :: _, _ => exact absurd h3 (by simp)
end

/-! ### words for the printed terms -/
section
variable {C : Cf}
theorem nm {i : Nat} (h : C.M.contains i = false) : i ∉ C.M := fun z => by
  have := List.contains_iff_mem.mpr z
  rw [h] at this
  cases this
theorem ym {i : Nat} (h : C.M.contains i = true) : i ∈ C.M := List.contains_iff_mem.mp h
theorem np {i : Nat} (h : (i == C.ps) = false) : i ≠ C.ps := fun z => by
  rw [z] at h
  simp at h
theorem nmv {vs : List Nat} (h : (vs.all fun v => !C.M.contains v) = true) : ∀ v ∈ vs, v ∉ C.M := fun v m => nm (by
  have := List.all_eq_true.mp h v m
  simpa using this)
theorem npv {vs : List Nat} (h : (vs.all fun v => !(v == C.ps)) = true) : ∀ v ∈ vs, v ≠ C.ps := fun v m => np (by
  have := List.all_eq_true.mp h v m
  simpa using this)
theorem inv' {ts vs : List Nat} (h : (ts.all fun v => vs.contains v) = true) : ∀ j, j ∈ ts → j ∈ vs := fun j m => by
  have := List.all_eq_true.mp h j m
  exact List.contains_iff_mem.mp this
theorem u65 {A : Around} {k : Nat} (hr : Room k A) : A.units + 65 < cLine := by
  have := hr.un
  omega
theorem isiK {X : Cx} (K : PySem.W.Frag) (eK : X.K = K) : CallR X (.builtin "isinstance") (rIsi K) := eK ▸ call_isi
theorem isiTK {X : Cx} (K : PySem.W.Frag) (eK : X.K = K) : CallR X (.builtin "isinstance") (rIsiT K) := eK ▸ call_isiT
theorem sumK {X : Cx} (K : PySem.W.Frag) (eK : X.K = K) (hc : X.calm = true) : CallR X (.builtin "sum") (rSum K) := eK ▸ cr_sum hc
theorem allK {X : Cx} (K : PySem.W.Frag) (eK : X.K = K) (hc : X.calm = true) : CallR X (.builtin "all") (rAll K) := eK ▸ cr_all hc
theorem anyK {X : Cx} (K : PySem.W.Frag) (eK : X.K = K) (hc : X.calm = true) : CallR X (.builtin "any") (rAny K) := eK ▸ cr_any hc
/-- list(range(..)) -/
theorem rg_all {K : PySem.W.Frag} {H : Hp} (lo hi : Int) : RpAll K H (rgV lo hi) (rgD lo (hi - lo).toNat) := by
  unfold rgV rgD
  generalize (hi - lo).toNat = n
  have : ∀ l : List Nat, RpAll K H (l.map fun i => V.int (lo + (i : Nat))) (l.map fun i => (PyData.int (lo + (i : Nat)) : D)) := fun l => by
    induction l with
    | nil => exact .nil
    | cons x l ih => exact .cons (.int _) ih
  exact this _
def dListRg1 (a : DT) : DT := fun s Q => a s fun d s1 => match d with
  | .int n => RgOk 0 n ∧ Q (.list (rgD 0 n.toNat)) s1
  | _ => False
theorem sim_listRg1 {te : TE} {t : DT} {ca : Cat} (h : Sim C ca te t) : Sim C .F (tLstRg (tRg1 te)) (dListRg1 t) := by
  refine ⟨fun H0 S0 Hs σ H s Q Q' r q k => h.run H0 S0 Hs σ H s _ _ r q fun Hs1 H1 v d s1 g1 r1 v1 q1 => ?_⟩
  cases d <;> first | exact q1.elim | skip
  rename_i n
  cases v1.int'
  have e : (n - 0).toNat = n.toNat := by omega
  refine ⟨n, rfl, q1.1, fun p np => k Hs1 _ _ (.list (rgD 0 n.toNat)) s1 (g1.trans (Go.laid np)) (r1.laid np) ((r1.newList np ?_).anew fun a e => g1.back a e) q1.2⟩
  rw [← e]
  exact rg_all 0 n
def dListRg2 (a b : DT) : DT := fun s Q => a s fun d s1 => b s1 fun e s2 => match d, e with
  | .int m, .int n => RgOk m n ∧ Q (.list (rgD m (n - m).toNat)) s2
  | _, _ => False
theorem sim_listRg2 {ta tb : TE} {da db : DT} {ca cb : Cat} (ha : Sim C ca ta da) (hb : Sim C cb tb db) : Sim C .F (tLstRg (tRg2 ta tb)) (dListRg2 da db) := by
  refine ⟨fun H0 S0 Hs σ H s Q Q' r q k => ha.run H0 S0 Hs σ H s _ _ r q fun Hs1 H1 v d s1 g1 r1 v1 q1 => hb.run H0 S0 Hs1 σ H1 s1 _ _ r1 q1 fun Hs2 H2 w e s2 g2 r2 v2 q2 => ?_⟩
  cases d <;> cases e <;> first | exact q2.elim | skip
  rename_i m n
  cases v1.int'
  cases v2.int'
  exact ⟨m, n, rfl, rfl, q2.1, fun p np => k Hs2 _ _ (.list (rgD m (n - m).toNat)) s2 ((g1.trans g2).trans (Go.laid np)) (r2.laid np) ((r2.newList np (rg_all m n)).anew fun a e => (g1.trans g2).back a e) q2.2⟩
end

/-! ### more words -/
theorem boot_isi : bootBuiltins "isinstance" = some (.builtin "isinstance") := by decide +kernel
theorem boot_len : bootBuiltins "len" = some (.builtin "len") := by decide +kernel
theorem boot_tuple : bootBuiltins "tuple" = some (.type "tuple") := by decide +kernel
theorem boot_list : bootBuiltins "list" = some (.type "list") := by decide +kernel
theorem boot_str : bootBuiltins "str" = some (.type "str") := by decide +kernel
theorem boot_int : bootBuiltins "int" = some (.type "int") := by decide +kernel
theorem boot_bool : bootBuiltins "bool" = some (.type "bool") := by decide +kernel
theorem boot_dict : bootBuiltins "dict" = some (.type "dict") := by decide +kernel
theorem boot_min : bootBuiltins "min" = some (.builtin "min") := by decide +kernel
theorem boot_max : bootBuiltins "max" = some (.builtin "max") := by decide +kernel
theorem boot_sum : bootBuiltins "sum" = some (.builtin "sum") := by decide +kernel
theorem boot_all : bootBuiltins "all" = some (.builtin "all") := by decide +kernel
theorem boot_any : bootBuiltins "any" = some (.builtin "any") := by decide +kernel
section
variable {C : Cf} {te ta tb : TE} {t da db : DT} {ca cb : Cat}
theorem nb {i : Nat} (h : C.bs.contains i = false) : i ∉ C.bs := fun z => by
  have := List.contains_iff_mem.mpr z
  rw [h] at this
  cases this
def dNeg (a : DT) : DT := fun s Q => a s fun d s1 => match d with
  | .int i => Q (.int (-i)) s1
  | _ => False
theorem sim_neg (h : Sim C ca te t) : Sim C .F (tUn (rU fun i => .int (-i)) te) (dNeg t) := by
  refine ⟨fun H0 S0 Hs σ H s Q Q' r q k => h.run H0 S0 Hs σ H s _ _ r q fun Hs1 H1 v d s1 g1 r1 v1 q1 => ?_⟩
  cases d <;> first | exact q1.elim | skip
  rename_i i
  cases v1.int'
  exact ⟨i, rfl, k Hs1 H1 _ (.int (-i)) s1 g1 r1 (Val.mkP (Rp.int _) rfl) q1⟩
/-- sep.join(xs) -/
def rJoinQ (K : PySem.W.Frag) : V → List V → Hp → VK → Prop := fun x xs H Q => ∃ a p, ∃ ys : List Str, x = .str a ∧ xs = [.ref p] ∧ (SqL K H p (ys.map V.str) ∨ SqT K H p (ys.map V.str)) ∧
    (ys.map (·.length)).sum + ys.length * a.length ≤ 16777216 ∧ Q (.str (Txt.join a ys)) H
theorem joinK {X : Cx} (K : PySem.W.Frag) (eK : X.K = K) {o e : Expr} {to te : TE} {apos pos : Pos} (ho : PE X o to) (he : PE X e te) (hs : starEach [e] X.env = [(false, eval e X.env)] := by rfl) (hbase : attributeBase o "join" X.env (eval o X.env) = eval o X.env := by rfl) (hline : (apos.endLine == pos.line) = true := by rfl) :
    PE X (.Call (.Attribute o "join" apos) [e] [] pos) (tM1 (rJoinQ K) to te) := by
  subst eK
  exact pe_join ho he hs hbase hline
def strsOf : List D → Option (List Str)
  | [] => some []
  | .str i :: r => (strsOf r).map (i :: ·)
  | _ :: _ => none
theorem strs_rp {K : PySem.W.Frag} {H : Hp} : ∀ {xs : List V} {ds : List D} {ns : List Str}, RpAll K H xs ds → strsOf ds = some ns → xs = ns.map V.str
  | _, _, _, .nil, e => by cases e; rfl
  | _, _, _, .cons (d := d) (ds := ds) a b, e => by
    cases d <;> first | (exfalso; have e' : (none : Option (List Str)) = some _ := e; cases e'; done) | skip
    cases a
    simp only [strsOf, Option.map_eq_some_iff] at e
    obtain ⟨ms, e1, rfl⟩ := e
    rw [strs_rp b e1]
    rfl
def joinD (a : Str) (d : D) (Q : D → Prop) : Prop := match d with
  | .list xs => ∃ ys, strsOf xs = some ys ∧ (ys.map (·.length)).sum + ys.length * a.length ≤ 16777216 ∧ Q (.str (Txt.join a ys))
  | .tuple xs => ∃ ys, strsOf xs = some ys ∧ (ys.map (·.length)).sum + ys.length * a.length ≤ 16777216 ∧ Q (.str (Txt.join a ys))
  | _ => False
def dJoin (a b : DT) : DT := fun s Q => a s fun x s1 => match x with
  | .str z => b s1 fun y s2 => joinD z y fun w => Q w s2
  | _ => False
theorem sim_join (ha : Sim C ca ta da) (hb : Sim C cb tb db) : Sim C .F (tM1 (rJoinQ C.K) ta tb) (dJoin da db) := by
  refine ⟨fun H0 S0 Hs σ H s Q Q' r q k => ha.toE.run H0 S0 Hs σ H s _ _ r q fun Hs1 H1 v d s1 g1 r1 v1 q1 => ?_⟩
  cases d <;> first | exact q1.elim | skip
  rename_i z
  cases v1
  refine ⟨⟨z, rfl⟩, hb.run H0 S0 Hs1 σ H1 s1 _ _ r1 q1 fun Hs2 H2 w e s2 g2 r2 v2 q2 => ?_⟩
  have rd := v2.rd r2.sub
  cases e <;> first | exact q2.elim | skip
  case list xs =>
    obtain ⟨p, ys, rfl, e1, e2⟩ := Rd'.list rd
    obtain ⟨zs, e3, e4, q2⟩ := q2
    rw [strs_rp e2 e3] at e1
    exact ⟨z, p, zs, rfl, rfl, .inl (SqL.of e1), e4, k Hs2 H2 _ (.str _) s2 (g1.trans g2) r2 (Val.mkP (Rp.str _) rfl) q2⟩
  case tuple xs =>
    obtain ⟨zs, e3, e4, q2⟩ := q2
    cases (show Rp C.K Hs2 w (.tuple xs) from rd) with
    | @tup p ys _ e1 e2 =>
    rw [strs_rp e2 e3] at e1
    exact ⟨z, p, zs, rfl, rfl, .inr (Same.sqT r2.sub e1), e4, k Hs2 H2 _ (.str _) s2 (g1.trans g2) r2 (Val.mkP (Rp.str _) rfl) q2⟩
theorem opA_iadd : OpA C (rI0 fun i j => .int (i + j)) (fun x y Q => match x, y with | .int i, .int j => Q (.int (i + j)) | _, _ => False) := by
  intro H0 S0 Hs σ H s x y dx dy Q Q' r hx hy q k
  cases dx <;> cases dy <;> first | exact q.elim | skip
  case int.int i j => cases hx; cases hy; exact ⟨i, j, rfl, rfl, k Hs H _ (.int (i + j)) Go.refl r (Val.mkP (Rp.int _) rfl) q⟩
end

/-! ### repr of a tree without dicts -/
def rRepr (K : PySem.W.Frag) : List V → Hp → VK → Prop := fun xs H Q => ∃ x d, xs = [x] ∧ Dp K H x d ∧ Sh d ∧ d.showable = true ∧ d.shown.length ≤ sizeLine ∧ Q (.str d.shown) H
theorem reprK {X : Cx} (K : PySem.W.Frag) (eK : X.K = K) (hg : X.A.guards = some []) (hu : X.A.units + 65 < cLine) : CallR X (.builtin "repr") (rRepr K) := by
  subst eK
  intro pins s σ H xs us Q I rv h
  obtain ⟨x, d, rfl, hd, sd, hw, hz, q⟩ := h
  obtain ⟨u, rfl, ru⟩ := vals1 rv
  obtain ⟨as, rd⟩ := Dp.reads I d x u hd ru
  have hs : d.canLay0 = true ∧ d.depth ≤ 64 := by
    have : (d.canLay0 && decide (d.depth ≤ 64)) = true := sd
    simpa using this
  have nd : d.hasDict = false := PyData.hasDict_of_canLay d hs.1
  have no : d.hasDict = true → sysModules ∉ as := fun z => by rw [nd] at z; cases z
  cases rd with
  | none => exact PySem.P.repr_of_none ⟨.str _, H, I.tok _, ⟨_, rfl⟩, q⟩
  | bool b => exact PySem.P.repr_of_bool ⟨.str _, H, I.tok _, ⟨_, rfl⟩, q⟩
  | int i t => exact PySem.P.repr_of_int (by simpa [PyData.showable] using hw) ⟨.str _, H, I.tok _, ⟨_, rfl⟩, q⟩
  | str z t => exact PySem.P.repr_of_str ⟨.str _, H, I.tok _, ⟨_, rfl⟩, q⟩ hz
  | list a b c r => exact repr_of_reads' (.list a b c r) hw no hg (by omega) (fun _ _ z => z) (fun h' t tk kp => ⟨.str _, H, I.kept kp, ⟨_, rfl⟩, q⟩) hz
  | tuple a b c r => exact repr_of_reads' (.tuple a b c r) hw no hg (by omega) (fun _ _ z => z) (fun h' t tk kp => ⟨.str _, H, I.kept kp, ⟨_, rfl⟩, q⟩) hz
  | dict a b c r1 r2 => exact absurd nd (by simp [PyData.hasDict])
def reprD : DF := fun ds Q => match ds with
  | [d] => Sh d ∧ d.showable = true ∧ d.shown.length ≤ sizeLine ∧ Q (.str d.shown)
  | _ => False
theorem caA_repr {C : Cf} : CaA C (rRepr C.K) reprD := by
  intro H0 S0 Hs σ H s vs ds Q Q' r hd q k
  match vs, ds, hd with
  | [v], [d], ⟨h, _⟩ => exact ⟨v, d, rfl, h.dp r.sub q.1, q.1, q.2.1, q.2.2.1, k Hs H _ (.str _) Go.refl r (Val.mkP (Rp.str _) rfl) q.2.2.2⟩
  | [], [], _ => exact q.elim
  | _ :: _ :: _, _ :: _ :: _, _ => exact q.elim

/-! ### own classes, globals -/
def Mt (K : PySem.W.Frag) (C : Addr) (m q : Str) (st : Stmt) (ps : List Str) : Prop := ∃ (f : Addr) (fd : FuncData), Fun K m q st f fd ∧ Binds K fd ps [] ∧ Meth K C m f
def OkM (P : Program) (w : World) (K : PySem.W.Frag) (mg : Str → Option Value) (base : Heap) (C : Addr) (k : Nat) (m : Str) (ps : List Str) (sp : Sp) : Prop :=
  ∃ (f : Addr) (fd : FuncData), Meth K C m f ∧ Binds K fd ps [] ∧ FnG P w K mg base k f fd ps sp
def Gv (mg : Str → Option Value) (x : Str) (v : V) : Prop := ∃ u, mg x = some u ∧ RelV v u
/-- a class as the top made it: its name, its __init__ -/
structure Kl (K : PySem.W.Frag) (mg : Str → Option Value) (C : Addr) (x q : Str) (st : Stmt) (ps : List Str) : Prop where
  cl : Cls K C
  g : mg x = some (.ref C)
  mks : PySem.W.makesIn K C = true
  kp : PySem.W.keepIn K (.ref C) = true
  init : Mt K C "__init__" q st ps
section
variable {P : Program} {w : World} {K : PySem.W.Frag} {mg : Str → Option Value} {base : Heap}
theorem OkM.mk {m q : Str} {C : Addr} {st : Stmt} {N ps : List Str} {k : Nat} {sp : Sp} (D : Mt K C m q st ps) (S : FnScope N ps (defScope st)) (len : ∀ vs H Q E, sp vs H Q E → vs.length = ps.length)
    (hbody : ∀ (f : Addr) (cdv : Value) (A : Around) (outer : List Env) (s : Shared) (H : Hp) (vs : List V) (Q : VK) (E : XK), Rm k (A.deeper (envOfC q (defScope st) s.heap.objs.size f cdv)) → sp vs H Q E →
      ∃ t, PSs (cxOf CX0 P w K mg base N q (defScope st) f cdv A outer s H E).nox (defBody st) t ∧ t { nx := fun _ H' => Q .non H', rt := Q } (start N vs) H) : OkM P w K mg base C (k + 1) m ps sp := by
  obtain ⟨f, fd, F, b, g⟩ := D
  exact ⟨f, fd, g, b, Fun.okG F S len fun cdv A outer s H vs Q E hr hg h => hbody f cdv A outer s H vs Q E ⟨hr, hg⟩ h⟩
theorem OkM.mono {C : Addr} {m : Str} {ps : List Str} {j k : Nat} {sp : Sp} (h : OkM P w K mg base C j m ps sp) (l : j ≤ k) : OkM P w K mg base C k m ps sp := by
  obtain ⟨f, fd, hm, hb, F⟩ := h
  exact ⟨f, fd, hm, hb, F.mono l⟩
end
section
variable {X : Cx}
theorem pe_mth {pl : Sem Bool} {C : Addr} {k : Nat} {m : Str} {ps : List Str} {sp : Sp} {o e : Expr} {es : List Expr} {ta : TE} {t : TA} {apos pos : Pos} (he : PE X o ta) (c : Cls X.K C) (O : OkM X.prog X.w X.K X.mg X.base C k m ps sp) (hr : Rm k X.A) (ha : PA X (e :: es) t)
    (hst : starEach (e :: es) X.env = (false, eval e X.env) :: starEach es X.env := by rfl) (hpl : (backTo pos (starEach es X.env)).any (·.1) = false := by rfl)
    (ht : eval (.Call (.Attribute o m apos) (e :: es) [] pos) X.env = (do
      let ov ← eval o X.env
      standAt apos.atName
      let (f, first) ← holding [ov] (getMethod ov m pl)
      callWith pos f first (backTo pos (starEach (e :: es) X.env)) (backToKw pos (keywordEach [] X.env))) := by rfl) :
    PE X (.Call (.Attribute o m apos) (e :: es) [] pos) (tMeth C m sp [] E0 ta t) := by
  obtain ⟨f, fd, hm, hb, F⟩ := O
  refine ⟨fun pins s σ H Q I h => PySem.W.methodCall_KW (pl := pl) (thn (he.run pins s σ H _ I h) fun u s1 ⟨y, H1, I1, ry, a, dx, fs, ey, ea, l, q⟩ => ?_) ht⟩
  subst ey
  obtain rfl : u = Value.ref a := ry
  exact getmeth_ok I1 ea c hm l (PySem.W.callWith_K (first := [.ref a]) (h₀ := X.base) I.ok.mod.kin hm.kp (thn (ha.run pos pins s1 σ H1 _ I1 q) fun us s2 ⟨vs, H2, I2, r, q2⟩ => ⟨I2.kIn, runG (us := .ref a :: us) (vs := .ref a :: vs) F hr.toRoom hr.gd hb I2 (.cons rfl r) (by have q3 : sp (V.ref a :: (vs ++ [])) H2 Q E0 := q2; rwa [List.append_nil] at q3)⟩) hst hpl)
theorem pe_mth0 {pl : Sem Bool} {C : Addr} {k : Nat} {m : Str} {ps : List Str} {sp : Sp} {o : Expr} {ta : TE} {apos pos : Pos} (he : PE X o ta) (c : Cls X.K C) (O : OkM X.prog X.w X.K X.mg X.base C k m ps sp) (hr : Rm k X.A)
    (ht : eval (.Call (.Attribute o m apos) [] [] pos) X.env = (do
      let ov ← eval o X.env
      standAt apos.atName
      let (f, first) ← holding [ov] (getMethod ov m pl)
      callWith pos f first (backTo pos (starEach [] X.env)) (backToKw pos (keywordEach [] X.env))) := by rfl) :
    PE X (.Call (.Attribute o m apos) [] [] pos) (tMeth C m sp [] E0 ta tNil) := by
  obtain ⟨f, fd, hm, hb, F⟩ := O
  refine ⟨fun pins s σ H Q I h => PySem.W.methodCall_KW (pl := pl) (thn (he.run pins s σ H _ I h) fun u s1 ⟨y, H1, I1, ry, a, dx, fs, ey, ea, l, q⟩ => ?_) ht⟩
  subst ey
  obtain rfl : u = Value.ref a := ry
  exact getmeth_ok I1 ea c hm l (PySem.W.callWith_K0 (first := [.ref a]) I1.kIn hm.kp (runG (us := [.ref a]) (vs := [.ref a]) F hr.toRoom hr.gd hb I1 (.cons rfl .nil) q))
theorem makeG {C : Addr} {k : Nat} {f : Addr} {fd : FuncData} {ps : List Str} {sp : Sp} {pins : List (Addr × Obj)} {σ : L2.St} {H : Hp} {s : Shared} {Q : VK} {us : List Value} {vs : List V} (M : Mk X.K C f) (F : FnG X.prog X.w X.K X.mg X.base k f fd ps sp) (hr : Room (k + 1) X.A) (hg : X.A.guards = some []) (hb : Binds X.K fd ps [])
    (I : Inv X pins σ H s) (rv : Vals vs us) (h : ∀ x dx, H x = none → H dx = none → dx ≠ x → sp (.ref x :: vs) (L2.upd (L2.upd H dx (.own x)) x (.ins C dx [])) (fun v H2 => v = .non ∧ Q (.ref x) H2) E0) :
    wpAny (model X.prog X.w) X.A (call (.ref C) us) (EP X pins σ Q) X.xe s := by
  have hq := h (s.heap.objs.size + 1) s.heap.objs.size (I.hok.fresh (Nat.le_succ _)) (I.hok.fresh (Nat.le_refl _)) (Nat.ne_of_lt (Nat.lt_succ_self _))
  have J := Inv.made (C := C) I
  have r2 : Vals (V.ref (s.heap.objs.size + 1) :: vs) (Value.ref (s.heap.objs.size + 1) :: us) := .cons rfl rv
  have hl : ((Value.ref (s.heap.objs.size + 1) :: us) ++ []).length = ps.length := by
    rw [List.append_nil, ← r2.length]
    exact F.len _ _ _ _ hq
  have b := hb _ (Value.ref (s.heap.objs.size + 1) :: us) J.kIn hl
  rw [List.append_nil] at b
  refine wpAny_call (make_map (f := f) I.kIn M.makes M.init (beq_iff_eq.mp M.fn) (codeAny_mono (F.run _ X.stack _ _ ⟨_, []⟩ _ _ _ E0 (hr.make C us []) (by
      have ng : (Code.builtin "type.__call__" ⟨Value.ref C :: us, []⟩).guards = [] := by first | rfl | (with_unfolding_all rfl) | (simp [Code.guards, Code.isGuard]; done)
      show pushGuards (Code.builtin "type.__call__" ⟨Value.ref C :: us, []⟩).guards X.A.guards = some []
      rw [ng]
      exact hg) (J.env0.make C us []) b r2 hq) fun r s' z => ?_))
  match r, z with
  | .ok (.ret u), z =>
    obtain ⟨v, H', I3, rv', ev, q3⟩ := J.after z
    subst ev
    exact ⟨rv', ⟨V.ref (s.heap.objs.size + 1), H', I3, rfl, q3⟩⟩
  | .ok .next, z => exact False.elim z
  | .ok .brk, z => exact False.elim z
  | .ok .cont, z => exact False.elim z
  | .error e, z => exact False.elim z
theorem pe_new {C : Addr} {k : Nat} {x q : Str} {st : Stmt} {ps : List Str} {sp : Sp} {e : Expr} {es : List Expr} {t : TA} {p pos : Pos} (L : Kl X.K X.mg C x q st ps) (O : OkM X.prog X.w X.K X.mg X.base C k "__init__" ps sp) (hr : Rm (k + 1) X.A) (hg : Gl X x) (ha : PA X (e :: es) t)
    (hdb : (x == ("__debug__" : Str)) = false := by decide) (he : starEach (e :: es) X.env = (false, eval e X.env) :: starEach es X.env := by rfl) (hpl : (backTo pos (starEach es X.env)).any (·.1) = false := by rfl) :
    PE X (.Call (.Name x p) (e :: es) [] pos) (tMake C sp [] E0 t) := by
  obtain ⟨f, fd, hm, hb, F⟩ := O
  exact ⟨fun pins s σ H Q I h => wpAny_Call_Name_kw (ld_glob I hg L.g (PySem.W.callWith_K (h₀ := X.base) I.ok.mod.kin L.kp (thn (ha.run pos pins s σ H _ I h) fun us s1 ⟨vs, H1, I1, r, q⟩ => ⟨I1.kIn, makeG ⟨L.mks, hm.at_, hm.fn, L.kp⟩ F hr.toRoom hr.gd hb I1 r (fun y dy n1 n2 n3 => by have q3 := q y dy n1 n2 n3; rwa [List.append_nil] at q3)⟩) he hpl) hdb)⟩
theorem pe_gv {x : Str} {v : V} {pos : Pos} (hg : Gl X x) (h : Gv X.mg x v) (hd : (x == ("__debug__" : Str)) = false := by decide) : PE X (.Name x pos) (tC v) := by
  obtain ⟨u, e, r⟩ := h
  exact pe_glob hg e r hd
theorem tkEnd {e : Prop} (h : e) : e := h
end

/-! ### loops by invariants, promises of nothing, the law's own frame -/
theorem forD_ind {g : D → S → (S → Prop) → Prop} {b : DSt} {E : DEnds} {items : List D} (Inv : Nat → S → Prop) {s : S} (h0 : Inv 0 s)
    (step : ∀ i d s (N : S → Prop), items[i]? = some d → Inv i s → (∀ s', Inv (i + 1) s' → N s') → g d s fun s1 => b { E with nx := N, ct := N, bk := E.nx } s1) (fin : ∀ s, Inv items.length s → E.nx s) : forD g b E items s := by
  have : ∀ (n i : Nat) (s : S), i + n = items.length → Inv i s → forD g b E (items.drop i) s := by
    intro n
    induction n with
    | zero =>
      intro i s e h
      rw [List.drop_of_length_le (by omega)]
      exact fin s (by rw [← e, Nat.add_zero]; exact h)
    | succ n ih =>
      intro i s e h
      have hi : i < items.length := by omega
      rw [List.drop_eq_getElem_cons hi]
      exact step i _ s _ (List.getElem?_eq_getElem hi) h fun s' h' => ih (i + 1) s' (by omega) h'
  exact this items.length 0 s (by omega) h0
theorem lcD_ind {g : D → S → (S → Prop) → Prop} {c : DB} {e : DT} {vs : List Nat} {Q : List D → S → Prop} {items : List D} (Inv : Nat → List D → S → Prop) {s : S} (h0 : Inv 0 [] s)
    (step : ∀ i d acc s (N : List D → S → Prop), items[i]? = some d → Inv i acc s → (∀ acc' s', Inv (i + 1) acc' s' → N acc' s') → g d s fun s1 => c s1 fun k s2 => if k = true then e s2 fun y s3 => N (acc ++ [y]) (wipeS s3 vs) else N acc (wipeS s2 vs))
    (fin : ∀ acc s, Inv items.length acc s → Q acc s) : lcD g c e vs Q items [] s := by
  have : ∀ (n i : Nat) (acc : List D) (s : S), i + n = items.length → Inv i acc s → lcD g c e vs Q (items.drop i) acc s := by
    intro n
    induction n with
    | zero =>
      intro i acc s e h
      rw [List.drop_of_length_le (by omega)]
      exact fin acc s (by rw [← e, Nat.add_zero]; exact h)
    | succ n ih =>
      intro i acc s e h
      have hi : i < items.length := by omega
      rw [List.drop_eq_getElem_cons hi]
      exact step i _ acc s (fun acc s => lcD g c _ vs Q (items.drop (i + 1)) acc s) (List.getElem?_eq_getElem hi) h fun acc' s' h' => ih (i + 1) acc' s' (by omega) h'
  exact this items.length 0 [] s (by omega) h0
theorem rgD_len (lo : Int) (n : Nat) : (rgD lo n).length = n := by unfold rgD; rw [List.length_map, List.length_range]
theorem rgD_get {lo : Int} {n i : Nat} {d : D} (h : (rgD lo n)[i]? = some d) : i < n ∧ d = .int (lo + (i : Nat)) := by
  have hi := (List.getElem?_eq_some_iff.mp h).1
  rw [rgD_len] at hi
  refine ⟨hi, ?_⟩
  unfold rgD at h
  rw [List.getElem?_map, List.getElem?_range hi] at h
  exact (Option.some.inj h).symm
section
variable {P : Program} {w : World} {K : PySem.W.Frag} {mg : Str → Option Value} {base : Heap}
theorem Ok.no {x : Str} {st : Stmt} {N ps : List Str} {sp : Sp} (D' : Df K mg x st ps) (S' : FnScope N ps (defScope st)) (h : ∀ vs H Q E, sp vs H Q E → False) : Ok P w K mg base 1 x ps sp :=
  Ok.mk D' S' (fun vs H Q E z => (h vs H Q E z).elim) (fun f cdv A outer s H vs Q E hr z => (h vs H Q E z).elim)
theorem spN_no {n : Nat} {cat : Cat} {F : DF} (h : ∀ ds Q, F ds Q → False) : ∀ vs H Q E, spN K n cat F vs H Q E → False := fun vs H Q E ⟨_, _, _, _, _, _, f, _⟩ => h _ _ f
theorem spP_no {n : Nat} {cat : Cat} {F : DFP} (h : ∀ ds n Q, F ds n Q → False) : ∀ vs H Q E, spP K n cat F vs H Q E → False := fun vs H Q E ⟨_, _, _, _, _, _, _, _, _, _, _, _, _, f, _⟩ => h _ _ _ f
/-- the law: its pen is opened first, then the rest in the plain layer -/
theorem Ok.ofLaw {st : Stmt} {fa : Addr} {fda : FuncData} {N0 N1 : Str} {N' : List Str} {k : Nat} {M : List Nat} (F : Fun K "law" "law" st fa fda) (S' : FnScope (N0 :: N1 :: N') ["_law_script"] (defScope st)) (hM : ∀ i ∈ M, 2 ≤ i ∧ i < N'.length + 2)
    (hbody : ∀ (f : Addr) (cdv : Value) (A : Around) (outer : List Env) (s : Shared) (H : Hp) (E : XK), Rm k (A.deeper (envOfC "law" (defScope st) s.heap.objs.size f cdv)) →
      ∃ t, PSs (cxOf CX0 P w K mg base (N0 :: N1 :: N') "law" (defScope st) f cdv A outer s H E).nox (defBody st) (tSeq (tAsg (tCall (spOpen K) [] E0 (tCons (tVar 0) tNil)) (gName 1)) t) ∧
        ∀ p c, ∃ d, SimS { K := K, pen := some (p, c), ps := 1, M := M } .E t d ∧ d { nx := fun _ => False, rt := fun z _ => z = .bool true } { δ := none :: none :: List.replicate N'.length none, n := 0 }) :
    FnG P w K mg base (k + 1) fa fda ["_law_script"] (spLaw K) := by
  refine Fun.okG F S' (fun vs H Q E h => ?_) (fun cdv A outer s H vs Q E hr hg h => ?_)
  · obtain ⟨a, ns, rfl, _⟩ := h; rfl
  obtain ⟨a, ns, rfl, hS, hl, q⟩ := h
  obtain ⟨t, ht, hs⟩ := hbody fa cdv A outer s H E ⟨hr, hg⟩
  refine ⟨_, ht, ?_⟩
  refine ⟨_, rfl, a, ns, rfl, hS, hl, fun p c H1 sm np nc pe => ?_⟩
  obtain ⟨d, sd, hd⟩ := hs p c
  obtain ⟨a0, r0, ep, _⟩ := pe.pen
  obtain ⟨nn, ec⟩ := pe.cells
  have es : (L2.start (N0 :: N1 :: N') [V.ref a]).set 1 (some (.ref p)) = some (.ref a) :: some (.ref p) :: List.replicate N'.length none := by
    unfold L2.start
    rfl
  show t _ ((L2.start (N0 :: N1 :: N') [V.ref a]).set 1 (some (.ref p))) H1
  rw [es]
  have gn : ∀ i, i ∈ M → (some (V.ref a) :: some (V.ref p) :: List.replicate N'.length (none : Option V))[i]? = some none := fun i m => by
    have := hM i m
    obtain ⟨j, rfl⟩ : ∃ j, i = j + 2 := ⟨i - 2, by omega⟩
    show (List.replicate N'.length none)[j]? = some none
    rw [List.getElem?_replicate, if_pos (by omega)]
  refine sd.run H1 (fun _ => none) (fun _ => none) _ H1 _ _ _ ?_ hd ⟨fun Hs' σ' H' s' r q => q.elim, fun Hs' σ' H' s' v dd r rv e => ?_, fun _ _ _ _ _ q => q.elim, fun _ _ _ _ _ q => q.elim⟩
  · refine ⟨(by simp), (fun b o e => nomatch e), fun i dd e _ => ?_, fun i dd e m => ?_, fun i m e => gn i m, fun i j x m1 m2 e1 e2 => ?_, fun p' c' e => ?_, fun b hb => (nomatch hb), Same.refl _, fun b o _ e => e, fun b e1 e2 => absurd e1 e2⟩
    · exfalso
      match i, e with
      | j + 2, e =>
        have e : (List.replicate N'.length (none : Option D))[j]? = some (some dd) := e
        rw [List.getElem?_replicate] at e
        split at e <;> cases e
    · exfalso
      match i, e with
      | j + 2, e =>
        have e : (List.replicate N'.length (none : Option D))[j]? = some (some dd) := e
        rw [List.getElem?_replicate] at e
        split at e <;> cases e
    · rw [gn i m1] at e1
      cases e1
    · cases e
      exact ⟨rfl, pe, rfl, (by rw [ep]; simp), (by rw [ec]; simp), rfl, fun z => absurd (hM 1 z).1 (by omega), fun z => (nomatch z), fun z => (nomatch z)⟩
  · have e' : dd = .bool true := e
    subst e'
    have rv' : Rp K Hs' v (.bool true) := rv
    cases rv'
    exact q H'
end

/-- one statement, then the rest, with a word between them -/
def dCut (a b : DSt) : DSt := fun E s => ∃ Mid : S → Prop, a { E with nx := Mid } s ∧ ∀ s', Mid s' → b E s'
theorem simS_cut {C : Cf} {cat : Cat} {ts us : TS} {a b : DSt} (ha : SimS C cat ts a) (hb : SimS C cat us b) : SimS C cat (tSeq ts us) (dCut a b) :=
  ⟨fun H0 S0 Hs σ H s E D' r ⟨Mid, q, h⟩ k => ha.run H0 S0 Hs σ H s _ _ r q ⟨fun Hs σ H s r q => hb.run H0 S0 Hs σ H s E D' r (h s q) k, k.rt, k.bk, k.ct⟩⟩
theorem small9 {m : Int} (h0 : 0 < m) (h1 : m < 2 ^ 63) : m.natAbs < 2 ^ 9000 := Nat.lt_of_lt_of_le (show m.natAbs < 2 ^ 63 by omega) (Nat.pow_le_pow_right (by decide) (by decide))
theorem take_ok {m : Int} {n : Nat} {Q : D → Nat → Prop} (hn : n ≤ 1000000000) (h0 : 0 < m) (h1 : m < 2 ^ 63) (k : ∀ r : Int, 0 ≤ r → r < m → Q (.int r) (n + 1)) : TakeP m n Q := ⟨hn, h0, small9 h0 h1, k⟩
theorem log_lt {n k : Nat} (h : n < 2 ^ k) (hk : 0 < k) : n.log2 < k := by
  by_cases h0 : n = 0
  · subst h0
    exact Nat.lt_of_le_of_lt (Nat.le_of_eq (by decide)) hk
  · exact (Nat.log2_lt h0).mpr h
theorem mulOk {i j : Int} (hi : i.natAbs < 2 ^ 2000) (hj : j.natAbs < 2 ^ 2000) : CMulW i j := by
  have h1 := log_lt hi (by decide)
  have h2 := log_lt hj (by decide)
  show i.natAbs.log2 + j.natAbs.log2 < 1000000
  omega
theorem lt2000 {n : Nat} (h : n < 10 ^ 40) : n < 2 ^ 2000 := Nat.lt_of_lt_of_le (show n < 2 ^ 200 from Nat.lt_of_lt_of_le h (by decide)) (Nat.pow_le_pow_right (by decide) (by decide))
theorem ix_ok {ds : List D} {i : Int} {Q : D → Prop} {d : D} (j : Nat) (e : i = (j : Int)) (h : ds[j]? = some d) (q : Q d) : IxP (atI ds i) Q := ⟨d, atI_of j e h, q⟩
theorem ixs_ok {z : Str} {i : Int} {Q : D → Prop} {c : Nat} (hz : z.length ≤ sizeLine) (e : atI z.cps.toList i = some c) (q : Q (.str ⟨#[c]⟩)) : IxS z i Q := ⟨hz, c, e, q⟩

section
variable {C : Cf} {cat : Cat} {ts us : TS} {a b : DSt}
theorem simE_cut (ha : SimS C cat ts a) (hb : SimE C cat us b) : SimE C cat (tSeq ts us) (dCut a b) :=
  ⟨fun H0 S0 Hs σ H s E D' r ⟨Mid, q, h⟩ k1 k2 k3 k4 => ha.run H0 S0 Hs σ H s _ _ r q ⟨fun Hs σ H s r q => hb.run H0 S0 Hs σ H s E D' r (h s q) k1 k2 k3 k4, fun Hs σ H s v d r rv q => k2 C.M Hs σ H s v d r rv q, k3, k4⟩⟩
end

/-! ### plain lists -/
theorem cutD_to (ds : List D) (j : Nat) : cutD ds none (some (j : Int)) = ds.take j := by
  unfold cutD
  rw [HT.sIx_none, HT.sIx_nat, List.drop_zero, Nat.sub_zero]
  rcases Nat.le_total j ds.length with h | h
  · rw [Nat.min_eq_left h]
  · rw [Nat.min_eq_right h, List.take_of_length_le (Nat.le_refl _), List.take_of_length_le h]
theorem cutD_from (ds : List D) (j : Nat) (h : j ≤ ds.length) : cutD ds (some (j : Int)) none = ds.drop j := by
  unfold cutD
  rw [HT.sIx_none, HT.sIx_nat, Nat.min_eq_left h]
  exact List.take_of_length_le (by rw [List.length_drop]; omega)
theorem prD_get {xs ys : List D} {i : Nat} {d : D} (h : (prD xs ys)[i]? = some d) : ∃ x y, xs[i]? = some x ∧ ys[i]? = some y ∧ d = .tuple [x, y] := by
  unfold prD at h
  rw [List.getElem?_map] at h
  cases e : (xs.zip ys)[i]? with
  | none => rw [e] at h; cases h
  | some p =>
    rw [e] at h
    obtain ⟨x, y⟩ := p
    obtain ⟨h1, h2⟩ := List.getElem?_zip_eq_some.mp e
    exact ⟨x, y, h1, h2, (Option.some.inj h).symm⟩
/-- data without dicts, of so many floors -/
def dat : Nat → D → Prop
  | _, .none => True
  | _, .bool _ => True
  | _, .int _ => True
  | _, .str _ => True
  | k + 1, .list ds => ds.length ≤ sizeLine ∧ ∀ d ∈ ds, dat k d
  | k + 1, .tuple ds => ds.length ≤ sizeLine ∧ ∀ d ∈ ds, dat k d
  | _, _ => False
def sameF : Nat → DF
  | 0 => fun _ _ => False
  | k + 1 => fun ds Q => match ds with
    | [a, b] => a = b ∧ dat k a ∧ Q (.bool true)
    | _ => False
theorem nin_true {n : Nat} {Q : D → Prop} (q : Q (.bool true)) : inD true (.bool false) (.list (List.replicate n (.bool true))) Q := by
  refine .inl ⟨rfl, ?_, ?_⟩
  · rw [List.all_eq_true]
    intro x hx
    rw [List.eq_of_mem_replicate hx]
    rfl
  · have : ((List.replicate n (PyData.bool true)).any fun z => eqF z (.bool false)) = false := by
      rw [List.any_eq_false]
      intro x hx
      rw [List.eq_of_mem_replicate hx]
      decide
    rw [this]
    exact q

/-! ### sum of a tuple, tuple * 0 and * 1, a display of texts indexed at once -/
section
variable {prog : Program} {w : World} {A : Around} {E : Value → Shared → Prop} {s : Shared} {l : Addr}
theorem sum_rawT {its : List Value} {ns : List Int} {Q : Value → Shared → Prop} (hh : A.handled = none) (hl : s.heap.IsTuple l its.toArray) (hi : IntsAre its ns)
    (h : ∀ h' tk t', (∀ b o, s.heap.get? b = some o → h'.get? b = some o) → Q (.int ns.sum t') { s with heap := h', toks := tk }) : wpAny (model prog w) A (call (.builtin "sum") [.ref l]) Q E s := by
  obtain ⟨xs, e⟩ := hi.allInts.items
  have hn : numsOf (intItems xs).toList = ns := by rw [← e]; exact hi.numsOf
  rw [nums_intItems] at hn
  rw [e] at hl
  have hlt : l < s.heap.objs.size := by obtain ⟨_, e, _⟩ := hl; exact Heap.lt_size e
  refine PySem.call_sum_walkG (wpAny_pyIter_tuple hl ⟨_, _, _, _, _, _, numAt xs, rfl, Walks.tuple (A := A.in1) hh _ l (Nat.ne_of_lt hlt) (intItems xs), ⟨⟨_, Heap.get?_push_size _ rfl, rfl, rfl⟩, hl.push _⟩, fun b hb => ?_, (fun _ _ => intItems_at), fun h' tk t' hk => ?_⟩)
  · show b < (s.heap.push _).objs.size
    rw [Heap.size_push]
    rcases List.mem_cons.mp hb with rfl | hb
    · exact Nat.lt_succ_self _
    · rcases List.mem_cons.mp hb with rfl | hb
      · exact Nat.lt_succ_of_lt hlt
      · cases hb
  · have hk' : ∀ b o, s.heap.get? b = some o → h'.get? b = some o := fun b o e => hk b o (fun hb => absurd (Heap.lt_size e) ((List.mem_singleton.mp hb) ▸ Nat.lt_irrefl _)) (Heap.get?_push_of_some _ e)
    have := h h' tk t' hk'
    have e2 : preSum (numAt xs) (intItems xs).size = ns.sum := by
      rw [preSum_eq, List.take_of_length_le (by simp [intItems]), hn]
    rw [e2]
    exact this
end
def rSumT (K : PySem.W.Frag) : List V → Hp → VK → Prop := fun vs H Q => ∃ (a : Addr) (ns : List Int), vs = [V.ref a] ∧ SqT K H a (ns.map V.int) ∧ Q (.int ns.sum) H
def rSumG (K : PySem.W.Frag) : List V → Hp → VK → Prop := fun xs H Q => rSum K xs H Q ∨ rSumT K xs H Q
theorem sumG {X : Cx} (K : PySem.W.Frag) (eK : X.K = K) (hc : X.calm = true) : CallR X (.builtin "sum") (rSumG K) := by
  subst eK
  refine CallR.or (cr_sum hc) ?_
  intro pins s σ H vs us Q I r h
  obtain ⟨a, ns, rfl, hs, q⟩ := h
  obtain ⟨its, rv, hl, _⟩ := I.tuple hs
  rw [Vals.ref1 r]
  exact sum_rawT (I.ok.hd hc) hl rv.ints fun h' tk t' hk => ⟨.int _, H, I.kept hk, ⟨_, rfl⟩, q⟩
def sumGD : DF := fun ds Q => match ds with
  | [d] => (match d with
    | .list xs => ∃ ns, intsOf xs = some ns ∧ Q (.int ns.sum)
    | .tuple xs => ∃ ns, intsOf xs = some ns ∧ Q (.int ns.sum)
    | _ => False)
  | _ => False
theorem caA_sumG {C : Cf} : CaA C (rSumG C.K) sumGD := by
  intro H0 S0 Hs σ H s vs ds Q Q' r hd q k
  match vs, ds, hd with
  | [v], [d], ⟨h, _⟩ =>
    cases d <;> first | exact q.elim | skip
    case list xs =>
      obtain ⟨a, ys, rfl, e1, e2⟩ := Rd'.list h
      obtain ⟨ns, e3, q⟩ := q
      rw [ints_rp e2 e3] at e1
      exact .inl ⟨a, ns, rfl, SqL.of e1, k Hs H _ (.int _) Go.refl r (Val.mkP (Rp.int _) rfl) q⟩
    case tuple xs =>
      cases h with
      | @tup a ys _ e1 e2 =>
      obtain ⟨ns, e3, q⟩ := q
      rw [ints_rp e2 e3] at e1
      exact .inr ⟨a, ns, rfl, Same.sqT r.sub e1, k Hs H _ (.int _) Go.refl r (Val.mkP (Rp.int _) rfl) q⟩
  | [], [], _ => exact q.elim
  | _ :: _ :: _, _ :: _ :: _, _ => exact q.elim
/-! tuple * 0, tuple * 1 -/
theorem tuple_mul1 (l : Addr) (items : Array Value) (n : Nat) (dd : Option Addr) (sl : Array (Option Value)) (x : Int) (u : Tok) (c0 : (decide (x < -(2 ^ 63)) || decide (x ≥ 2 ^ 63)) = false) (c1 : (items.isEmpty || x == 1) = true) :
    Meets (Builtin.«tuple.__mul__» ⟨[.ref l, .int x u], []⟩) (fun _ R s => s.heap.get? l = some { cls := .type "tuple", dict := dd, data := .seq items n, slots := sl } ∧ R (.ok (.ret (Value.ref l))) s) :=
  .of_wp fun prog w A R s h => by
    obtain ⟨hp, g, d, tk, os⟩ := s
    obtain ⟨hl, h⟩ := h
    have f1 := AutoSeq1.idx_int
    wp_walk using wpAny_loadPart' hl
    repeat (first
      | (refine wpAny_ite_false (decide_eq_false (by rw [c0]; exact Bool.false_ne_true)) ?_; wp_walk using wpAny_loadPart' hl)
      | (refine wpAny_ite_true (decide_eq_true c1) ?_; wp_walk using wpAny_loadPart' hl))
    exact ⟨_, rfl, h⟩
theorem tuple_mul0 (l : Addr) (items : Array Value) (n : Nat) (dd : Option Addr) (sl : Array (Option Value)) (x : Int) (u : Tok) (c0 : (decide (x < -(2 ^ 63)) || decide (x ≥ 2 ^ 63)) = false) (c1 : (items.isEmpty || x == 1) = false) (c2 : (decide (x ≤ 0) || items.isEmpty) = true) :
    Meets (Builtin.«tuple.__mul__» ⟨[.ref l, .int x u], []⟩) (fun _ R s => s.heap.get? l = some { cls := .type "tuple", dict := dd, data := .seq items n, slots := sl } ∧
      R (.ok (.ret (Value.ref s.heap.objs.size))) { s with heap := s.heap.push { cls := Value.type "tuple", data := Data.seq #[] }, toks := s.toks }) :=
  .of_wp fun prog w A R s h => by
    obtain ⟨hp, g, d, tk, os⟩ := s
    obtain ⟨hl, h⟩ := h
    have f1 := AutoSeq1.idx_int
    wp_walk using wpAny_loadPart' hl
    repeat (first
      | (refine wpAny_ite_false (decide_eq_false (by rw [c0]; exact Bool.false_ne_true)) ?_; wp_walk using wpAny_loadPart' hl)
      | (refine wpAny_ite_false (decide_eq_false (by rw [c1]; exact Bool.false_ne_true)) ?_; wp_walk using wpAny_loadPart' hl)
      | (refine wpAny_ite_true (decide_eq_true c2) ?_; wp_walk using wpAny_loadPart' hl))
    exact ⟨_, rfl, h⟩
def rRep01 (K : PySem.W.Frag) : R2 := fun x y H Q => ∃ l k xs, x = .ref l ∧ y = .int k ∧ SqT K H l xs ∧ 0 ≤ k ∧ k ≤ 1 ∧ (k = 1 ∨ xs = [] → Q (.ref l) H) ∧ (k = 0 → xs ≠ [] → ∀ p, H p = none → Q (.ref p) (upd H p (.tup [])))
theorem op_rep01 {X : Cx} (K : PySem.W.Frag) (eK : X.K = K) : OpR X (binaryOp .Mult) (rRep01 K) := by
  subst eK
  intro pins s σ H x y v u Q I rx ry h
  obtain ⟨l, k, xs, rfl, rfl, hT, h1, h2, q1, q0⟩ := h
  cases rx
  obtain ⟨t, rfl⟩ := ry
  obtain ⟨its, r, ⟨⟨cls, dd, data, sl⟩, ho, hc, n, hd⟩, hs⟩ := I.tuple hT
  simp only at hc hd
  subst hc hd
  have hle : its.length = xs.length := r.length.symm
  have c0 : (decide (k < -(2 ^ 63)) || decide (k ≥ 2 ^ 63)) = false := by
    rw [decide_eq_false (by omega), decide_eq_false (by omega)] <;> rfl
  by_cases hk : k = 1 ∨ xs = []
  · have c1 : (its.toArray.isEmpty || k == 1) = true := by
      rcases hk with rfl | hk
      · simp
      · rw [hk] at hle
        rw [List.eq_nil_of_length_eq_zero hle]
        rfl
    refine wpAny_binaryOp_repeat_ref (T := "tuple") (U := "int") (by decide) ⟨_, ho, rfl⟩ (fun s' => typeIs_int s' k t) noFill_tuple_mul F.fills_int_mul F.slot_int_rmul repeat_tuple F.slot_int_index.lookup
      (call_meets F.slot_int_rmul (typeIs_int s k t) F.entry_int_rmul (F.args_int_rmul_2 _ _) (int_rmul_tuple k t l its.toArray n dd sl)
        ⟨ho, rfl, ⟨_, ho, rfl⟩, call_meets F.slot_tuple_mul ⟨_, ho, rfl⟩ F.entry_tuple_mul (F.args_tuple_mul_2 _ _) (tuple_mul1 l its.toArray n dd sl k t c0 c1) ⟨ho, ?_⟩⟩)
    exact ⟨.ref l, H, I, rfl, q1 hk⟩
  · have hn : its ≠ [] := fun e => hk (.inr (by rw [e] at hle; exact List.eq_nil_of_length_eq_zero hle.symm))
    have hi : its.toArray.isEmpty = false := by
      cases its with
      | nil => exact absurd rfl hn
      | cons a b => rfl
    have k0 : k = 0 := by
      have : ¬ k = 1 := fun e => hk (.inl e)
      omega
    subst k0
    have c1 : (its.toArray.isEmpty || (0 : Int) == 1) = false := by rw [hi]; rfl
    have c2 : (decide ((0 : Int) ≤ 0) || its.toArray.isEmpty) = true := by rw [hi]; rfl
    refine wpAny_binaryOp_repeat_ref (T := "tuple") (U := "int") (by decide) ⟨_, ho, rfl⟩ (fun s' => typeIs_int s' 0 t) noFill_tuple_mul F.fills_int_mul F.slot_int_rmul repeat_tuple F.slot_int_index.lookup
      (call_meets F.slot_int_rmul (typeIs_int s 0 t) F.entry_int_rmul (F.args_int_rmul_2 _ _) (int_rmul_tuple 0 t l its.toArray n dd sl)
        ⟨ho, rfl, ⟨_, ho, rfl⟩, call_meets F.slot_tuple_mul ⟨_, ho, rfl⟩ F.entry_tuple_mul (F.args_tuple_mul_2 _ _) (tuple_mul0 l its.toArray n dd sl 0 t c0 c1 c2) ⟨ho, ?_⟩⟩)
    refine ⟨.ref s.heap.objs.size, _, I.laid (t' := s.toks) (o := .tup []) (fun b ob q => Heap.get?_push_of_some _ q) (Nat.le_refl _) ?_, rfl, q0 rfl (fun e => hk (.inr e)) _ (I.hok.fresh (Nat.le_refl _))⟩
    exact ⟨by decide, [], .nil, IsTup.new _ _⟩
def rep01D : DO := fun x y Q => match x, y with
  | .tuple a, .int k => (k = 1 ∧ Q (.tuple a)) ∨ (k = 0 ∧ Q (.tuple []))
  | _, _ => False
theorem opA_rep01 {C : Cf} : OpA C (rRep01 C.K) rep01D := by
  intro H0 S0 Hs σ H s x y dx dy Q Q' r hx hy q k
  cases dx <;> cases dy <;> first | exact q.elim | skip
  case tuple.int ds n =>
    cases hx with
    | @tup a xs _ h1 h2 =>
    cases hy
    rcases q with ⟨rfl, q⟩ | ⟨rfl, q⟩
    · exact ⟨a, 1, xs, rfl, rfl, Same.sqT r.sub h1, by decide, by decide, fun _ => k Hs H _ (.tuple ds) Go.refl r (Val.mkP (Rp.tup h1 h2) rfl) q, fun e => absurd e (by decide)⟩
    · refine ⟨a, 0, xs, rfl, rfl, Same.sqT r.sub h1, by decide, by decide, fun e => ?_, fun _ _ p np => ?_⟩
      · have e : xs = [] := e.resolve_left (by decide)
        subst e
        cases h2
        exact k Hs H _ (.tuple []) Go.refl r (Val.mkP (Rp.tup h1 .nil) rfl) q
      · obtain ⟨r', g'⟩ := r.newTup (o := .tup []) np
        exact k _ _ _ (.tuple []) g' r' (Val.mkP (Rp.tup (SqT.of upd_same) .nil) rfl) q
/-! {"a": x, "b": y}[z] -/
def rIxDk : R2 := fun x y H Q => ∃ p kvs k v, x = .ref p ∧ y = kV k ∧ H p = some (.dK kvs) ∧ valV kvs k = some v ∧ Q v H
theorem ixDk {X : Cx} (hu : X.A.units + 65 < cLine) : IxR X rIxDk := by
  intro value slice pins s σ H x y v u Q I rx ry h hs
  obtain ⟨p, kvs, k, z, rfl, rfl, hH, hv, q⟩ := h
  cases rx
  exact tail_any (isD_at I (.inl ⟨kvs, .inl hH⟩)).1 slot_dict_getitem.lookup (d_getItem (v := z) (by omega) I (by rw [← hv]; exact DGet.k hH) ry fun w' s' I' r' => ⟨z, H, I', r', q⟩) hs
section
variable {C : Cf} {t1 t2 tb : TE} {d1 d2 db : DT} {c1 c2 cb : Cat}
def dSel2 (k1 k2 : Str) (d1 d2 db : DT) : DT := fun s Q => d1 s fun x s1 => d2 s1 fun y s2 => db s2 fun z s3 => (z = .str k1 ∧ Q x s3) ∨ (z = .str k2 ∧ Q y s3)
theorem sim_dsel2 {k1 k2 : Str} (hk : k1 ≠ k2) (h1 : Sim C c1 t1 d1) (h2 : Sim C c2 t2 d2) (hb : Sim C cb tb db) : Sim C .E (tOp rIxDk (tDisp [(tC (.str k1), t1), (tC (.str k2), t2)]) tb) (dSel2 k1 k2 d1 d2 db) := by
  refine ⟨fun H0 S0 Hs σ H s Q Q' r q k => fun p np => ?_⟩
  obtain ⟨f0, f1, f2, f3⟩ := r.free0 np
  have r0 := r.laid (o := .dK []) np
  have g0 : Go C σ Hs H Hs (upd H p (.dK [])) := Go.laid np
  refine h1.toE.run H0 S0 Hs σ _ s _ _ r0 q fun Hs1 H1 x dx s1 g1 r1 v1 q1 => ?_
  have p1 : H1 p = some (.dK []) := g1.kp p _ upd_same f2 f3
  have n1 : Hs1 p = none := none_of_new g1.nw f1 upd_same
  refine h2.toE.run H0 S0 Hs1 σ H1 s1 _ _ r1 q1 fun Hs2 H2 y dy s2 g2 r2 v2 q2 => ?_
  have p2 : H2 p = some (.dK []) := g2.kp p _ p1 f2 f3
  have n2 : Hs2 p = none := none_of_new g2.nw n1 p1
  refine ⟨p2, [(.inr k1, x), (.inr k2, y)], rfl, by simp, ?_⟩
  have em : mergeK [] [((.inr k1 : Key), x), (.inr k2, y)] = [(.inr k1, x), (.inr k2, y)] := by
    have : ¬ ((Sum.inr k1 : Key) = .inr k2) := fun e => hk (by cases e; rfl)
    simp [mergeK, putK, this]
  rw [em]
  have r3 := r2.updF (o := .dK [(.inr k1, x), (.inr k2, y)]) n2 f0 f2
  have g3 : Go C σ Hs H Hs2 (upd H2 p (.dK [(.inr k1, x), (.inr k2, y)])) := (g0.trans (g1.trans g2)).updF np
  refine hb.toE.run H0 S0 Hs2 σ _ s2 _ _ r3 q2 fun Hs3 H3 z dz s3 g4 r4 v4 q4 => ?_
  have p3 : H3 p = some (.dK [(.inr k1, x), (.inr k2, y)]) := g4.kp p _ upd_same f2 f3
  have v1' : Rp C.K Hs3 x dx := Rp.mono (g2.st.trans g4.st) v1
  have v2' : Rp C.K Hs3 y dy := Rp.mono g4.st v2
  have v4' : Rp C.K Hs3 z dz := v4
  rcases q4 with ⟨rfl, q4⟩ | ⟨rfl, q4⟩
  · cases v4'
    refine ⟨p, _, .inr k1, x, rfl, rfl, p3, ?_, k Hs3 H3 x dx s3 (g3.trans g4) r4 v1' q4⟩
    simp [valV]
  · cases v4'
    refine ⟨p, _, .inr k2, y, rfl, rfl, p3, ?_, k Hs3 H3 y dy s3 (g3.trans g4) r4 v2' q4⟩
    have : ¬ ((Sum.inr k1 : Key) = .inr k2) := fun e => hk (by cases e; rfl)
    simp [valV, this]
end
/-! str(x) of an int or a text -/
def rStrG : List V → Hp → VK → Prop := fun xs H Q => (∃ i, xs = [.int i] ∧ i.natAbs.log2 < 1920 ∧ Q (.str (toString i)) H) ∨ ∃ a, xs = [.str a] ∧ Q (.str a) H
theorem strG {X : Cx} : CallR X (.type "str") rStrG := CallR.or call_str_int SkE.call_str_str
def strGD : DF := fun ds Q => match ds with
  | [d] => (match d with
    | .int i => i.natAbs.log2 < 1920 ∧ Q (.str (toString i))
    | .str a => Q (.str a)
    | _ => False)
  | _ => False
theorem caA_strG {C : Cf} : CaA C rStrG strGD := by
  intro H0 S0 Hs σ H s vs ds Q Q' r hd q k
  match vs, ds, hd with
  | [v], [d], ⟨h, _⟩ =>
    cases d <;> first | exact q.elim | skip
    case int i =>
      cases h
      exact .inl ⟨_, rfl, q.1, k Hs H _ (.str _) Go.refl r (Val.mkP (Rp.str _) rfl) q.2⟩
    case str a =>
      cases h
      exact .inr ⟨_, rfl, k Hs H _ (.str _) Go.refl r (Val.mkP (Rp.str _) rfl) q⟩
  | [], [], _ => exact q.elim
  | _ :: _ :: _, _ :: _ :: _, _ => exact q.elim


/-! ### defs that may raise, asked only where no repr is under way -/
structure FnGX (P : Program) (w : World) (K : PySem.W.Frag) (mg : Str → Option Value) (base : Heap) (k : Nat) (f : Addr) (fd : FuncData) (ps : List Str) (sp : Sp) : Prop where
  len : ∀ vs H Q E, sp vs H Q E → vs.length = ps.length
  run : ∀ (A : Around) (fs : List Env) (s : Shared) (H : Hp) (ar : Args) (us : List Value) (vs : List V) (Q : VK) (E : XK), Room k A → A.guards = some [] → Env0 P w K mg base A fs s H → BindsTo s fd ar (ps.zip us) → Vals vs us → sp vs H Q E →
    codeAny (model P w) A (.call (.ref f) ar) (CR (L2.CX P w) fs P w H s Q E) s
def OkX (P : Program) (w : World) (K : PySem.W.Frag) (mg : Str → Option Value) (base : Heap) (k : Nat) (x : Str) (ps : List Str) (sp : Sp) : Prop :=
  ∃ (f : Addr) (fd : FuncData), mg x = some (.ref f) ∧ PySem.W.keepIn K (.ref f) = true ∧ Binds K fd ps [] ∧ FnGX P w K mg base k f fd ps sp
section
variable {P : Program} {w : World} {K : PySem.W.Frag} {mg : Str → Option Value} {base : Heap}
theorem Fun.okGX {x q : Str} {st : Stmt} {f : Addr} {fd : FuncData} {N ps : List Str} {k : Nat} {sp : Sp} (F : Fun K x q st f fd) (S : FnScope N ps (defScope st)) (len : ∀ vs H Q E, sp vs H Q E → vs.length = ps.length)
    (hbody : ∀ (cdv : Value) (A : Around) (fs : List Env) (s : Shared) (H : Hp) (vs : List V) (Q : VK) (E : XK), Room k (A.deeper (envOfC q (defScope st) s.heap.objs.size f cdv)) → A.guards = some [] → sp vs H Q E →
      ∃ t, PSs (cxOf (L2.CX P w) P w K mg base N q (defScope st) f cdv A fs s H E) (defBody st) t ∧ t { nx := fun _ H' => Q .non H', rt := Q } (L2.start N vs) H) : FnGX P w K mg base (k + 1) f fd ps sp := by
  obtain ⟨oc, od, kV, doc, pm, an, cdv, ct, osl, rfl, lk, hcd⟩ := F.ex
  refine ⟨len, fun A fs s H ar us vs Q E hr hg e0 hb rv hsp => ?_⟩
  have kin : K.In s.heap := e0.mod.kin.keeps fun b o z => (e0.bs b o z).1
  have nl : s.heap.NoLimit := e0.mod.nolimit.keeps fun b o z => (e0.bs b o z).1
  have loc : ∀ y ∈ ps.zip us, (defScope st).names.lookup y.1 = some .local ∨ ((defScope st).names.lookup y.1 = some .cell ∧ ((cellsFrom (s.heap.objs.size + 1) (defScope st).names []).lookup y.1).isSome = true) := by
    rintro ⟨n, v⟩ hy
    exact (S.par n (List.of_mem_zip hy).1).imp_right fun z => ⟨z, PySem.W.cellsFrom_some _ _ _ (.inl z)⟩
  refine codeAny_call_function hr.depth (kin _ _ lk) rfl S.co S.gen rfl (PySem.W.codeRec_of kin hcd) (hb _ _ _ _ (wpAny_newFunctionEnv_cells S.kind loc fun env he s1 x => ?_))
  subst he
  refine ⟨nl.keeps x.toInCall.keep, codeAny_func ?_⟩
  obtain ⟨t, ht, hq⟩ := hbody cdv A fs s H vs Q E (hr.deeper _) hg hsp
  have J0 := inv_start (CX := L2.CX P w) (E := E) S hr.hd e0 (len _ _ _ _ hsp) rv x
  refine wpAny_mono (ht.run [] s1 (L2.start N vs) H _ J0 hq) (fun fl s' hs => ?_) (fun _ _ z => z)
  cases fl with
  | ret u =>
    obtain ⟨v, σ', H', J, r', q'⟩ := hs
    exact ⟨v, H', J.os, J.bare, J.base, J.hok, r', q'⟩
  | next =>
    obtain ⟨σ', H', J, q'⟩ := hs
    exact ⟨V.non, H', J.os, J.bare, J.base, J.hok, rfl, q'⟩
  | brk => exact (hs.elim fun _ z => z.elim fun _ z => z.2.elim)
  | cont => exact (hs.elim fun _ z => z.elim fun _ z => z.2.elim)
theorem OkX.mk {x : Str} {st : Stmt} {N ps : List Str} {k : Nat} {sp : Sp} (D : Df K mg x st ps) (S : FnScope N ps (defScope st)) (len : ∀ vs H Q E, sp vs H Q E → vs.length = ps.length)
    (hbody : ∀ (f : Addr) (cdv : Value) (A : Around) (outer : List Env) (s : Shared) (H : Hp) (vs : List V) (Q : VK) (E : XK), Rm k (A.deeper (envOfC x (defScope st) s.heap.objs.size f cdv)) → sp vs H Q E →
      ∃ t, PSs (cxOf (L2.CX P w) P w K mg base N x (defScope st) f cdv A outer s H E) (defBody st) t ∧ t { nx := fun _ H' => Q .non H', rt := Q } (L2.start N vs) H) : OkX P w K mg base (k + 1) x ps sp := by
  obtain ⟨f, fd, F, b, g⟩ := D
  exact ⟨f, fd, g, F.kp, b, Fun.okGX F S len fun cdv A outer s H vs Q E hr hg h => hbody f cdv A outer s H vs Q E ⟨hr, hg⟩ h⟩
end
section
variable {X : Cx}
theorem runGX {k : Nat} {f : Addr} {fd : FuncData} {ps : List Str} {sp : Sp} {pins : List (Addr × Obj)} {σ : L2.St} {H : Hp} {s : Shared} {Q : VK} {us : List Value} {vs : List V} {E : L2.St → XK} (F : FnGX X.prog X.w X.K X.mg X.base k f fd ps sp) (hr : Room k X.A) (hg : X.A.guards = some []) (hb : Binds X.K fd ps [])
    (hx : PassesAt (L2.CX X.prog X.w) X σ (E σ)) (I : Inv X pins σ H s) (rv : Vals vs us) (h : sp vs H Q (E σ)) : wpAny (model X.prog X.w) X.A (call (.ref f) us) (EP X pins σ Q) X.xe s := by
  have hl : (us ++ []).length = ps.length := by rw [List.append_nil, ← rv.length]; exact F.len _ _ _ _ h
  have b := hb s us I.kIn hl
  rw [List.append_nil] at b
  refine wpAny_call (codeAny_mono (F.run X.A X.stack s H ⟨us, []⟩ us vs Q (E σ) hr hg I.env0 b rv h) fun r s' z => ?_)
  match r, z with
  | .ok (.ret u), z => exact I.after z
  | .ok .next, z => exact False.elim z
  | .ok .brk, z => exact False.elim z
  | .ok .cont, z => exact False.elim z
  | .error e, z => exact hx pins H s e s' I z
theorem pe_fnX {k : Nat} {x : Str} {ps : List Str} {sp : Sp} {e : Expr} {es : List Expr} {t : TA} {p pos : Pos} {E : L2.St → XK} (O : OkX X.prog X.w X.K X.mg X.base k x ps sp) (hr : Room k X.A) (gd : X.A.guards = some []) (hg : Gl X x) (hx : ∀ σ, PassesAt (L2.CX X.prog X.w) X σ (E σ)) (ha : PA X (e :: es) t)
    (hdb : (x == ("__debug__" : Str)) = false := by decide) (he : starEach (e :: es) X.env = (false, eval e X.env) :: starEach es X.env := by rfl) (hpl : (backTo pos (starEach es X.env)).any (·.1) = false := by rfl) :
    PE X (.Call (.Name x p) (e :: es) [] pos) (tCallS sp E t) := by
  obtain ⟨f, fd, hm, hk, hb, F⟩ := O
  exact ⟨fun pins s σ H Q I h => wpAny_Call_Name_kw (ld_glob I hg hm (PySem.W.callWith_K (h₀ := X.base) I.ok.mod.kin hk (thn (ha.run pos pins s σ H _ I h) fun us s1 ⟨vs, H1, I1, r, q⟩ => ⟨I1.kIn, runGX F hr gd hb (hx σ) I1 r q⟩) he hpl) hdb)⟩
end
/-! ### a caught exception that is kept behind the try -/
def ExO (a : Addr) (cls : Value) (d : Option Addr) : HO := HO.ext fun h => ∃ oe vs, h.get? a = some oe ∧ Zc cls d oe ∧ oe.data = .fields vs
section
variable {X : Cx} {pins : List (Addr × Obj)} {σ : L2.St} {H : Hp} {s : Shared}
theorem inv_exo {a : Addr} {oe : Obj} {cls : Value} {d : Option Addr} (I : Inv X ((a, oe) :: pins) σ H s) (hz : Zc cls d oe) (hf : ∃ vs, oe.data = .fields vs) (a0 : X.s_0.heap.get? a = none) (hp : ∀ p ∈ X.pn ++ pins, p.1 ≠ a) : Inv X pins σ (upd H a (ExO a cls d)) s := by
  obtain ⟨e1, e2, e3, e4, e5⟩ := I.pin (a, oe) (List.mem_append.mpr (.inr List.mem_cons_self))
  have ne : ∀ {b : Addr} {o : HO}, H b = some o → b ≠ a := fun h => ne_of_none h e2
  have keep : ∀ {b : Addr} {o : HO}, H b = some o → upd H a (ExO a cls d) b = some o := fun h => by rw [upd_ne (ne h)]; exact h
  refine ⟨I.ok, I.os, I.bare, ⟨I.base.keep, I.base.slot, fun b o q n hx => ?_, I.base.there, fun b xs q => keep (I.base.tups b xs q), fun b o u q => keep (I.base.frzs b o u q), fun b ps q => ?_⟩, I.loc, I.cell, ?_, fun x c q => ?_, fun p h => ?_, fun b o q => ?_, I.len⟩
  · rw [upd_ne (fun z => by subst z; rw [a0] at q; cases q)]
    exact I.base.free b o q n hx
  · obtain ⟨more, z⟩ := I.base.tbls b ps q
    exact ⟨more, keep z⟩
  · rw [upd_ne (Ne.symm e3)]
    exact I.free
  · have nc : c ≠ a := fun z => by
      subst z
      obtain ⟨v, hc⟩ := I.cell x c q
      obtain ⟨o, ho, hd⟩ := hc
      rw [e1] at ho
      cases ho
      exact e5 v hd
    rw [upd_ne nc]
    exact I.freeC x c q
  · have hm : p ∈ X.pn ++ (a, oe) :: pins := by
      rcases List.mem_append.mp h with h | h
      · exact List.mem_append.mpr (.inl h)
      · exact List.mem_append.mpr (.inr (List.mem_cons_of_mem _ h))
    obtain ⟨f1, f2, f3, f4, f5⟩ := I.pin p hm
    exact ⟨f1, by rw [upd_ne (hp p h)]; exact f2, f3, f4, f5⟩
  · by_cases z : b = a
    · subst z
      rw [upd_same] at q
      cases q
      obtain ⟨vs, hf⟩ := hf
      exact ⟨⟨oe, vs, e1, hz, hf⟩, ⟨oe, e1⟩, fun h1 h2 ⟨oe, vs, q1, q2, q3⟩ k => ⟨oe, vs, k _ q1, q2, q3⟩⟩
    · rw [upd_ne z] at q
      exact (I.hok b o q).stay (fun _ _ _ q => q) (fun _ q => keep q) fun _ _ q => keep q
theorem inv_offsuite {a : Addr} {oe : Obj} {pn' : List (Addr × Obj)} (I : Inv (X.suite a ((a, oe) :: (X.pn ++ pins))) pn' σ H s) (ok : X.Ok) : Inv X ((a, oe) :: pins) σ H s :=
  ⟨ok, I.os, I.bare, I.base, I.loc, I.cell, I.free, I.freeC, fun p hp => I.pin p (List.mem_append_left _ (by
    rcases List.mem_append.mp hp with h | h
    · exact List.mem_cons_of_mem _ (List.mem_append.mpr (.inl h))
    · rcases List.mem_cons.mp h with h | h
      · rw [h]; exact List.mem_cons_self
      · exact List.mem_cons_of_mem _ (List.mem_append.mpr (.inr h)))), I.hok, I.len⟩
end
/-- what the clause 'except x as n' wishes, the exception kept -/
def wAsK (K : PySem.W.Frag) (c : Value) (i : Nat) (ts : Addr → Value → Option Addr → TS) (D : Ends) : WX := fun cls d σ H =>
  PySem.W.exmOne K cls c = some true ∧ ∀ a, H a = none → ts a cls d { nx := fun σ' H' => H' a = none → D.nx (σ'.set i none) (upd H' a (ExO a cls d)), rt := fun _ _ => False, bk := fun _ _ => False, ct := fun _ _ => False } (σ.set i (some (.ref a))) H
section
variable {X : Cx} {x n : Str} {c : Value} {i : Nat} {body suite : List Stmt} {b₀ : Stmt} {np pos pos' : Pos} {tb : WX → TS} {ts : Addr → Value → Option Addr → TS}
theorem ps_try_keep (hs : X.stack = X.env :: X.outer) (hf : X.env.frame = some X.env.locals) (hex : X.ex = []) (hN : X.N.Nodup) (hi : X.N[i]? = some n) (hln : X.env.kindOf n = some .local) (hc : Names X x c)
    (hb : ∀ (W : WX) (pn : List (Addr × Obj)) (xe : Value → Shared → Prop), Takes (X.tr pn xe) W → PassesOwn (model X.prog X.w) X.A X.env xe → PSs (X.tr pn xe) body (tb W))
    (hsu : ∀ (a : Addr) (oe : Obj) (cls : Value) (d : Option Addr) (pn : List (Addr × Obj)), Zc cls d oe → (∃ vs, oe.data = .fields vs) → PSs (X.suite a ((a, oe) :: pn)) (b₀ :: suite) (ts a cls d)) :
    PS X (.Try body [.ExceptHandler (some (.Name x np)) (some n) (b₀ :: suite) pos'] [] [] pos) (fun D σ H => tb (wAsK X.K c i ts D) D σ H) := by
  refine ⟨fun pins s σ H D I h => ?_⟩
  have ok := I.ok
  have hfr : X.A.frames = some (X.env :: X.outer) := by rw [ok.frames, hs]
  have hloc : Loc X.env.scope n := .inl hln
  refine wpAny_Try_except ?_
  refine wpAny_mono ((hb (wAsK X.K c i ts D) (X.pn ++ pins) (fun e s₁ => wpAny (model X.prog X.w) X.A (noteFrame e X.env) (fun _ s₂ => wpAny (model X.prog X.w) X.A (setFlight e none) (fun _ s₃ =>
    wpAny (model X.prog X.w) X.A (handleBy e X.env [.ExceptHandler (some (.Name x np)) (some n) (b₀ :: suite) pos']) (SP X pins D) X.xe s₃) X.xe s₂) X.xe s₁) (fun u s' xx => ?_) PassesOwn.looking).run [] s σ H D (I.toTry _) h) (fun f s1 hsp => ?_) (fun e s1 he => he)
  · obtain ⟨a, B, sI, pins', σ', H', cls, d, rfl, J', nb, up, sky, na, os, ag, hb1, hyes⟩ := xx
    have J : Inv X pins σ' H' sI := J'.ofTry ok
    have sky' : Sky B (X.env :: X.outer) a (Zc cls d) X.env.locals s'.heap := by rw [← hs]; exact sky
    show wpAny (model X.prog X.w) X.A (noteFrame (.ref a) X.env) _ _ _
    refine Sky.land Zc.steady hfr hf sky' fun h3 fl3 up3 => ?_
    have J3 : Inv X pins σ' H' { s' with heap := h3 } := J.landed nb fl3.1 (up.trans up3) os ag
    obtain ⟨oe3, vs3, he3, hz3, hd3⟩ := fl3.there
    have notFr : ∀ {h : Heap} {o : Obj} {vs : Array Value}, h.FunFrames B (X.env :: X.outer) → h.get? a = some o → o.data = .fields vs → a ∉ frs (X.env :: X.outer) := fun {h o vs} ff e dd hm => by
      obtain ⟨_, o', e', hnf⟩ := ff.mem hm
      rw [e] at e'; cases e'
      exact hnf _ dd
    have nfr := notFr fl3.2.2.1 he3 hd3
    have nfr' : a ∉ frs X.stack := by rw [hs]; exact nfr
    have gone : ∀ o, sI.heap.get? a = some o → False := fun o e => by
      have := nb a o e nfr'
      rw [fl3.2.1] at this
      cases this
    have a0 : X.s_0.heap.get? a = none := by
      cases q : X.s_0.heap.get? a with
      | none => rfl
      | some o =>
        obtain ⟨o', e1⟩ := J.base.there a o q (by rw [hex]; exact fun z => nomatch z)
        exact (gone o' e1).elim
    have pna : ∀ p ∈ X.pn ++ pins, p.1 ≠ a := fun p hp z => gone p.2 (by rw [← z]; exact (J.pin p hp).1)
    have nL : a ≠ X.env.locals := fun z => nfr (List.mem_filterMap.mpr ⟨X.env, List.mem_cons_self, by rw [hf, z]⟩)
    have nF : a ∉ X.fs := fun hm => by
      obtain ⟨e, he, q⟩ := List.mem_filterMap.mp hm
      exact nfr (List.mem_filterMap.mpr ⟨e, List.mem_cons_of_mem _ he, q⟩)
    have S3 := J3.suite he3 hd3 na nL nF
    refine wpAny_handleBy_cons (codeAny_handlers_test ?_) (by intro q; cases q)
    have LT : PySem.W.Looks (model X.prog X.w) h3 (typeOf (.ref a)) cls := fun A Q E s k q => wpAny_typeOf_ref (k _ _ he3) (by rw [hz3.1]; exact q)
    have LM := PySem.W.exm_one (M := model X.prog X.w) (J3.kIn) LT hb1
    have test : ∀ {Q : Value → Shared → Prop} {E : Value → Shared → Prop}, Q c { s' with heap := h3 } → wpAny (model X.prog X.w) (X.A.mark (some (.ref a))) (eval (.Name x np) X.env) Q E { s' with heap := h3 } := fun {Q E} q => by
      obtain ⟨hg, hdbg, hm | ⟨hm, hv, hnn⟩⟩ := hc
      · exact ld_glob (X := X.suite a ((a, oe3) :: (X.pn ++ pins))) S3 hg hm q hdbg
      · exact ld_blt (X := X.suite a ((a, oe3) :: (X.pn ++ pins))) S3 hg hm hv q hnn hdbg
    refine test (LM.here ?_)
    refine codeAny_handlers_suite_as ?_
    refine HandSPX.lands_againZ fl3 fun h4 fl4 up4 => ?_
    have J4 : Inv X pins σ' H' { s' with heap := h4 } := J.landed nb fl4.1 ((up.trans up3).trans up4) os ag
    obtain ⟨oe4, vs4, he4, hz4, hd4⟩ := fl4.there
    have S4 := J4.suite he4 hd4 na nL nF
    refine store_ok (X := X.suite a ((a, oe4) :: (X.pn ++ pins))) (v := .ref a) S4 hN hi hloc rfl (fun s5 S5 => ?_) (.inr hln)
    refine wpAny_mono ((hsu a oe4 cls d (X.pn ++ pins) hz4 ⟨_, hd4⟩).run [] s5 _ H' _ S5 (hyes a na)) (fun f s6 hsp => ?_) (fun _ _ z => False.elim z)
    cases f with
    | next =>
      obtain ⟨σ6, H6, S6, q6⟩ := hsp
      have n6 := (S6.pin (a, oe4) (List.mem_append_left _ List.mem_cons_self)).2.1
      exact gone_ok (inv_offsuite S6 ok) hN hi hln fun s7 J7 => ⟨_, _, inv_exo J7 hz4 ⟨_, hd4⟩ a0 pna, q6 n6⟩
    | brk =>
      obtain ⟨σ6, H6, S6, q6⟩ := hsp
      exact q6.elim
    | cont =>
      obtain ⟨σ6, H6, S6, q6⟩ := hsp
      exact q6.elim
    | ret u =>
      obtain ⟨v6, σ6, H6, S6, r6, q6⟩ := hsp
      exact q6.elim
  · cases f with
    | next =>
      obtain ⟨σ', H', J', q⟩ := hsp
      exact wpAny_execs_nil ⟨σ', H', J'.ofTry ok, q⟩
    | brk =>
      obtain ⟨σ', H', J', q⟩ := hsp
      exact ⟨σ', H', J'.ofTry ok, q⟩
    | cont =>
      obtain ⟨σ', H', J', q⟩ := hsp
      exact ⟨σ', H', J'.ofTry ok, q⟩
    | ret u =>
      obtain ⟨v, σ', H', J', r, q⟩ := hsp
      exact ⟨v, σ', H', J'.ofTry ok, r, q⟩
end
/-- isinstance(e, c), e a caught exception that was kept -/
def rIsX (K : PySem.W.Frag) (D : Addr) : List V → Hp → VK → Prop := fun xs H Q => ∃ (a : Addr) (c : V) (cv : Value) (b : Bool), xs = [.ref a, c] ∧ H a = some (ExO a (.ref D) none) ∧ (∀ u, RelV c u → u = cv) ∧ PySem.W.kitOne K (.ref D) cv = some b ∧ Q (.bl b) H
theorem isXK {X : Cx} {D : Addr} (K : PySem.W.Frag) (eK : X.K = K) (C : ExcC K D) : CallR X (.builtin "isinstance") (rIsX K D) := by
  subst eK
  intro pins s σ H xs us Q I r h
  obtain ⟨a, c, cv, b, rfl, hH, hcv, e, q⟩ := h
  cases r with
  | cons rx rr =>
    cases rr with
    | cons rt rr =>
      cases rr
      cases rx
      have ec := hcv _ rt
      subst ec
      obtain ⟨⟨oe, vs, hget, hz, hv⟩, _⟩ := I.hok a _ hH
      have J : PySem.W.InstAt s.heap a oe D none := by
        obtain ⟨oc, od, oda, osl⟩ := oe
        obtain ⟨h1, h2⟩ := hz
        dsimp only at h1 h2 hv
        subst h1 h2 hv
        exact ⟨hget, rfl, rfl, trivial⟩
      exact PySem.W.kia_one (PySem.W.handS_kitx_exc C.hg C.hk C.hs C.hd C.ha C.hn C.ht C.hm) I.kIn J e (fun z => nomatch z) fun tk => ⟨.bl b, H, I.kept (t' := tk) fun _ _ z => z, rfl, q⟩

/-! ### a kept exception of an own class that has a field -/
def rIsXd (K : PySem.W.Frag) (D : Addr) : List V → Hp → VK → Prop := fun xs H Q => ∃ (a d : Addr) (fs : List (Str × V)) (c : V) (cv : Value) (b : Bool), xs = [.ref a, c] ∧ H a = some (ExO a (.ref D) (some d)) ∧ H d = some (.xd fs) ∧ (∀ u, RelV c u → u = cv) ∧ PySem.W.kitOne K (.ref D) cv = some b ∧ Q (.bl b) H
theorem isXd {X : Cx} {D : Addr} (K : PySem.W.Frag) (eK : X.K = K) (C : ExcC K D) : CallR X (.builtin "isinstance") (rIsXd K D) := by
  subst eK
  intro pins s σ H xs us Q I r h
  obtain ⟨a, d, fs, c, cv, b, rfl, hH, hd, hcv, e, q⟩ := h
  cases r with
  | cons rx rr =>
    cases rr with
    | cons rt rr =>
      cases rr
      cases rx
      have ec := hcv _ rt
      subst ec
      obtain ⟨⟨oe, vs, hget, hz, hv⟩, _⟩ := I.hok a _ hH
      have hx : ObjOk X.prog X.w H s.heap d (.xd fs) := I.hok d _ hd
      obtain ⟨mA, hns, hr⟩ := hx
      obtain ⟨od, ho, hl⟩ := lookIn_ns hns
      have J : PySem.W.InstAt s.heap a oe D (some od) := by
        refine ⟨hget, hz.1, by unfold PySem.W.notCls; rw [hv] <;> rfl, by rw [hz.2]; exact ho⟩
      have hcl : (PySem.W.clsIn X.K D).isSome = true := by
        obtain ⟨cd, hc, _⟩ := PySem.W.any_some C.hd
        rw [hc]; rfl
      exact PySem.W.kia_one (PySem.W.kitx_exc hcl C.hg C.hk C.hs C.ha C.hn C.ht C.hm) I.kIn J e (fun z => nomatch z) fun tk => ⟨.bl b, H, I.kept (t' := tk) fun _ _ z => z, rfl, q⟩
def tXk (C : Addr) (f : Str) (te : TE) : TE := fun σ H Q => te σ H fun x H1 => ∃ (a d : Addr) (fs : List (Str × V)) (v : V), x = .ref a ∧ H1 a = some (ExO a (.ref C) (some d)) ∧ H1 d = some (.xd fs) ∧ fs.lookup f = some v ∧ Q v H1
theorem pe_xk {X : Cx} {C : Addr} {e : Expr} {te : TE} {pos : Pos} {n : Str} (T : ExcC X.K C) (hno : PySem.W.findIn X.K (.ref C) n = some none) (he : PE X e te) (hb : attributeBase e n X.env (eval e X.env) = eval e X.env := by rfl) :
    PE X (.Attribute e n pos) (tXk C n te) := by
  refine ⟨fun pins s σ H Q I h => ?_⟩
  refine attr_of hb (thn (he.run pins s σ H _ I h) fun u s1 hh => ?_)
  obtain ⟨x, H1, I1, rx, a, dd, fs, v, ex, eH, ea, l, q⟩ := hh
  subst ex
  obtain rfl : u = Value.ref a := rx
  obtain ⟨⟨oe, vs, ha, hz, hd⟩, _⟩ := I1.hok a _ eH
  have hx : ObjOk X.prog X.w H1 s1.heap dd (.xd fs) := I1.hok dd _ ea
  obtain ⟨mA, hns, hr⟩ := hx
  obtain ⟨od, ho, hl⟩ := lookIn_ns hns
  obtain ⟨u, hu, ru⟩ := RelO.some_of (v := v) (o := mA n) (by rw [← l]; exact hr n)
  have J : PySem.W.InstAt s1.heap a oe C (some od) := ⟨ha, hz.1, by unfold PySem.W.notCls; rw [hd] <;> rfl, by rw [hz.2]; exact ho⟩
  exact HandSPX.exc_get I1.kIn J T.hg T.hk T.hs (PySem.W.findObj_own T.hd hno rfl (by rw [hl, hu])) (handed_of ru) ⟨v, H1, I1.tok _, ru, q⟩
/-! the end's facts -/
theorem kit_refs {K : PySem.W.Frag} {t : Value} {C : Addr} {b : Bool} (h2 : PySem.W.isClsIn K C = true) (h3 : PySem.W.typeIn K (.ref C) = some (.type "type")) (h4 : PySem.W.subIn K t (.ref C) = some b) : PySem.W.kitCls K t (.ref C) = some b := by
  have e2 : ((PySem.W.clsIn K C).isSome && PySem.W.typeIn K (.ref C) == some (.type "type")) = true := by
    have h2' : (PySem.W.clsIn K C).isSome = true := h2
    rw [h2', h3] <;> rfl
  show (if ((PySem.W.clsIn K C).isSome && PySem.W.typeIn K (.ref C) == some (.type "type")) = true then PySem.W.subIn K t (.ref C) else none) = some b
  rw [if_pos e2]
  exact h4
theorem kit_no {K : PySem.W.Frag} {CW C : Addr} (sW : PySem.W.subIn K (.ref CW) (.ref CW) = some true) (h2 : PySem.W.isClsIn K C = true) (h3 : PySem.W.typeIn K (.ref C) = some (.type "type")) (h4 : PySem.W.subIn K (.ref CW) (.ref C) = some false) : PySem.W.kitOne K (.ref CW) (.ref C) = some false := by
  unfold PySem.W.kitOne
  rw [if_neg, kit_refs h2 h3 h4]
  intro e
  have e : (Value.ref CW) = .ref C := beq_iff_eq.mp e
  rw [← e, sW] at h4
  cases h4
theorem kit_ve {K : PySem.W.Frag} {CW : Addr} (h : PySem.W.subIn K (.ref CW) (.type "ValueError") = some true) : PySem.W.kitOne K (.ref CW) (.type "ValueError") = some true := by
  unfold PySem.W.kitOne
  split
  · rfl
  · show (if PySem.W.kitMeta "ValueError" = true then PySem.W.subIn K (.ref CW) (.type "ValueError") else none) = some true
    rw [if_pos (by decide +kernel)]
    exact h
theorem exm_up {K : PySem.W.Frag} {CW CB : Addr} (h1 : PySem.W.subIn K (.ref CB) (.type "BaseException") = some true) (h2 : PySem.W.isClsIn K CB = true) (h3 : PySem.W.typeIn K (.ref CB) = some (.type "type")) (h4 : PySem.W.subIn K (.ref CW) (.ref CB) = some true) : PySem.W.exmOne K (.ref CW) (.ref CB) = some true := by
  unfold PySem.W.exmOne
  rw [if_pos (by rw [h1] <;> rfl), kit_refs h2 h3 h4]

/-! ### enumerate of a text -/
def Ites (x : Str) : It := ⟨fun i _ => i < x.cps.size, fun i H v H' => ∃ T c, v = .ref T ∧ H T = none ∧ H' = L2.upd H T (.tup [.int (i : Nat), .str ⟨#[c]⟩]) ∧ x.cps[i]? = some c, fun i _ => x.cps.size ≤ i⟩
theorem turn_enumS {P : Program} {w : World} {K : PySem.W.Frag} {elts : List Expr} {kk : Nat} {tpos : Pos} (e it : Addr) (x : Str) (t : Tok) (ty : String) (hty : ty = "str_ascii_iterator" ∨ ty = "str_iterator") :
    Turn P w K (.Tuple elts kk tpos) (Ites x) [e, it] e (fun i h => ((∃ old, IsEnum h e it ((i : Nat) : Int) old) ∧ h.IsStrIter it ty x t i ∧ e ≠ it) ∧ i ≤ x.cps.size) where
  mem := by simp
  obj := fun i h st b hb => by
    obtain ⟨⟨⟨old, he⟩, ⟨o, ho, hc, hd⟩, _⟩, _⟩ := st
    have e' : b = e ∨ b = it := by simpa using hb
    rcases e' with z | z
    · rw [z]; exact ⟨_, he, fun v q => nomatch q⟩
    · rw [z]; exact ⟨o, ho, fun v q => by rw [hd] at q; cases q⟩
  keep := fun i h h' st k => let ⟨⟨⟨old, he⟩, ⟨o, ho, r⟩, hne⟩, hl⟩ := st; ⟨⟨⟨old, k e (by simp) _ he⟩, ⟨o, k it (by simp) o ho, r⟩, hne⟩, hl⟩
  item := by
    intro X hP hw hK hc i pins s σ H E I hf st hg
    subst hP hw hK
    obtain ⟨⟨⟨old, he⟩, hit, hne⟩, _⟩ := st
    have hel : e < s.heap.objs.size := Heap.lt_size he
    have hil : it < s.heap.objs.size := by obtain ⟨_, q, _⟩ := hit; exact Heap.lt_size q
    have D : Draws X.prog X.w X.A.in1 it [it] x.cps.size (fun i v => ∃ c u, x.cps[i]? = some c ∧ v = .str ⟨#[c]⟩ u) (fun i h => h.IsStrIter it ty x t i) := by
      have hh : X.A.in1.handled = none := I.ok.hd hc
      rcases hty with z | z
      · rw [z]; exact Draws.strAscii hh it x t
      · rw [z]; exact Draws.strWide hh it x t
    refine wpAny_pyNext_enum_itemD D he hit hg hne (by simpa using hne) fun v h' tk hv ho hit' hT hsz hk => ?_
    obtain ⟨c, u, hc', rfl⟩ := hv
    refine ⟨_, rfl, wpAny_letOwnedTupleGo_enum (s := { s with heap := h', toks := tk + 1 }) ho fun h'' he' sb => ?_⟩
    have hT2 : h''.get? s.heap.objs.size = some { cls := .type "tuple", data := .seq #[.int i tk, .str ⟨#[c]⟩ u] } := (sb.2 _ (Nat.ne_of_gt hel)).trans hT
    have new : ObjOk X.prog X.w (L2.upd H s.heap.objs.size (.tup [.int (i : Nat), .str ⟨#[c]⟩])) h'' s.heap.objs.size (.tup [.int (i : Nat), .str ⟨#[c]⟩]) :=
      ⟨by show 2 ≤ sizeLine; decide, [.int i tk, .str ⟨#[c]⟩ u], .cons ⟨_, rfl⟩ (.cons ⟨_, rfl⟩ .nil), ⟨_, hT2, rfl, _, rfl⟩⟩
    have I1 : Inv X pins σ (L2.upd H s.heap.objs.size (.tup [.int (i : Nat), .str ⟨#[c]⟩])) { s with heap := h'', toks := tk + 1 } :=
      I.turnedNew (ch := [e, it]) (fun b ob hb q => (sb.2 b (fun z => hb (by simp [z]))).trans (hk b ob (fun z => hb (by simp [z])) (fun z => hb (by simp [z])) q)) hf (Nat.le_refl _) new
    have hg' : i < x.cps.size := hg
    refine ⟨.ref s.heap.objs.size, _, I1, rfl, ⟨_, c, rfl, I.hok.fresh (Nat.le_refl _), rfl, hc'⟩, ⟨⟨⟨.str ⟨#[c]⟩ u, ?_⟩, (let ⟨o, ho, r⟩ := hit'; ⟨o, (sb.2 it (Ne.symm hne)).trans ho, r⟩), hne⟩, hg'⟩, fun b hb => ?_⟩
    · have e1 : ((i + 1 : Nat) : Int) = (i : Int) + 1 := by omega
      rw [e1]; exact he'
    · have hb' : b < s.heap.objs.size := by
        have e' : b = e ∨ b = it := by simpa using hb
        rcases e' with z | z
        · rw [z]; exact hel
        · rw [z]; exact hil
      rw [upd_ne (Nat.ne_of_lt hb')]
      exact (hf b hb).1
  done := by
    intro X hP hw hK hc i pins s σ H E I hf st hg
    subst hP hw hK
    obtain ⟨⟨⟨old, he⟩, hit, hne⟩, hl⟩ := st
    have hg : x.cps.size ≤ i := hg
    have ei : i = x.cps.size := by omega
    subst ei
    have D : Draws X.prog X.w X.A.in1 it [it] x.cps.size (fun i v => ∃ c u, x.cps[i]? = some c ∧ v = .str ⟨#[c]⟩ u) (fun i h => h.IsStrIter it ty x t i) := by
      have hh : X.A.in1.handled = none := I.ok.hd hc
      rcases hty with z | z
      · rw [z]; exact Draws.strAscii hh it x t
      · rw [z]; exact Draws.strWide hh it x t
    obtain ⟨f0, f1, f2, f3, f4, f5⟩ := hf it (by simp)
    exact wpAny_pyNext_enum_endD D he hit fun h' eb => ⟨rfl, I.turned (t' := s.toks) (fun b o hb q => eb b o hb q) f0 f1 f3 f4 f5⟩
  self := fun A i s Q E st h => let ⟨⟨⟨_, he⟩, _⟩, _⟩ := st; wpAny_pyIter_enum he h
def iEnumS (ta : TA) : TI := fun σ H R => ta σ H fun vs H1 => ∃ x, vs = [.str x] ∧ R (Ites x) H1
theorem pi_enumS {X : Cx} {e : Expr} {ta : TA} {p pos tpos : Pos} {elts : List Expr} {kk : Nat} (hg : Gl X "enumerate") (hm : X.mg "enumerate" = none) (ha : PA X [e] ta) (hs : starEach [e] X.env = [(false, eval e X.env)] := by rfl) :
    PI X (.Tuple elts kk tpos) (.Call (.Name "enumerate" p) [e] [] pos) (iEnumS ta) := by
  refine ⟨fun pins s σ H R I h => ?_⟩
  refine Call_ (ld_blt I hg hm boot_enumerate (PyProof.Rows.callWith_type1 (thn (ha.run pos pins s σ H _ I h) fun us s1 ⟨vs, H1, I1, r1, q1⟩ => ?_) hs rfl))
  obtain ⟨x, ex, q⟩ := q1
  subst ex
  cases r1 with
  | cons r rr =>
    cases rr
    obtain ⟨t, rfl⟩ := r
    refine call_enumerate_str fun h' he hit hsz hk => wpAny_pyIter_enum he ?_
    have I2 : Inv X pins σ H1 { s1 with heap := h' } := I1.kept (t' := s1.toks) hk
    have hty : strIterType x = "str_ascii_iterator" ∨ strIterType x = "str_iterator" := by unfold strIterType; split <;> simp
    refine ⟨s1.heap.objs.size + 1, [s1.heap.objs.size + 1, s1.heap.objs.size], _, _, H1, rfl, I2, turn_enumS (s1.heap.objs.size + 1) s1.heap.objs.size x t _ hty, ⟨⟨⟨.none, he⟩, hit, Nat.succ_ne_self _⟩, Nat.zero_le _⟩, fun b hb => ?_, q⟩
    have e' : b = s1.heap.objs.size + 1 ∨ b = s1.heap.objs.size := by simpa using hb
    have hle : s1.heap.objs.size ≤ b := by
      rcases e' with z | z
      · rw [z]; exact Nat.le_add_right _ _
      · rw [z]; exact Nat.le_refl _
    exact I1.fpOk hle (I1.hok.fresh hle)
theorem walk_enumS {z : Str} : Walk (Ites z) z.cps.size (fun _ => True) (fun i H v H' => ∃ T c, v = .ref T ∧ H T = none ∧ H' = L2.upd H T (.tup [.int (i : Nat), .str ⟨#[c]⟩]) ∧ z.cps[i]? = some c) :=
  ⟨fun _ _ hi _ => hi, fun _ _ => Nat.le_refl _, fun _ _ _ _ _ _ y => y⟩
def dEnumS (a : DT) : DI := fun s Q => a s fun d s1 => match d with
  | .str z => Q (prD (rgD 0 (signs z).length) (signs z)) s1
  | _ => False
section
variable {C : Cf} {ca : Cat} {te : TE} {t : DT}
theorem simI_enumS (h : Sim C ca te t) : SimI C (iEnumS (tCons te tNil)) (dEnumS t) := by
  refine ⟨fun H0 S0 Hs σ H s Q Q' r q k => h.toE.run H0 S0 Hs σ H s _ _ r q fun Hs1 H1 v d s1 g1 r1 v1 q1 => ?_⟩
  cases d <;> first | exact q1.elim | skip
  rename_i z
  cases v1
  refine ⟨z, rfl, k Hs1 H1 _ _ s1 g1 r1 ?_ q1⟩
  have hl : (signs z).length = z.cps.size := by unfold signs; rw [List.length_map, Array.length_toList]
  refine ⟨_, _, by rw [enum_len, hl]; exact walk_enumS, fun H e => True.intro, fun i H v H2 H0 S0 Hs σ s hi r e y => ?_⟩
  obtain ⟨T, c, rfl, nT, rfl, e1⟩ := y
  obtain ⟨Hs2, r2, rp, g⟩ := pair_it r nT (Rp.int ((i : Nat) : Int)) (Rp.str ⟨#[c]⟩)
  refine ⟨Hs2, _, enum_get ?_, r2, rp, g⟩
  unfold signs
  rw [List.getElem?_map, Array.getElem?_toList, e1]
  rfl
end
/-! ### a text so often -/
def repS (x : Str) (n : Nat) : Str := ⟨(List.replicate n x.cps.toList).flatten.toArray⟩
def rRepS : R2 := fun x y H Q => ∃ z n, x = .str z ∧ y = .int n ∧ 0 ≤ n ∧ n < 2 ^ 62 ∧ z.length * n.toNat ≤ sizeLine ∧ Q (.str (repS z n.toNat)) H
theorem fold_app (x : Array Nat) : ∀ (n : Nat) (acc : Array Nat), (List.replicate n x).foldl (· ++ ·) acc = acc ++ (List.replicate n x.toList).flatten.toArray
  | 0, acc => by simp
  | n + 1, acc => by
    rw [List.replicate_succ, List.foldl_cons, fold_app x n]
    rw [List.replicate_succ, List.flatten_cons, Array.append_assoc]
    congr 1
    apply Array.ext'
    simp
theorem repS_len (x : Str) (n : Nat) : (repS x n).length = x.length * n := by
  unfold repS
  show (List.replicate n x.cps.toList).flatten.toArray.size = x.cps.size * n
  simp [Nat.mul_comm]
theorem op_repS {X : Cx} : OpR X (binaryOp .Mult) rRepS := by
  intro pins s σ H x y v u Q I rx ry h
  obtain ⟨z, n, rfl, rfl, h1, h2, hz, q⟩ := h
  obtain ⟨t, rfl⟩ := rx
  obtain ⟨t', rfl⟩ := ry
  by_cases h0 : n < 1
  · have e0 : n = 0 := by omega
    subst e0
    refine P.mul_str_none h0 (by decide) ?_
    have ee : repS z (0 : Int).toNat = Str.empty := by unfold repS; rfl
    rw [ee] at q
    exact ⟨.str Str.empty, H, I.tok _, ⟨_, rfl⟩, q⟩
  have hn1 : 1 ≤ n.toNat := by omega
  have hlong : Builtin.Str.tooLong (z.length * n.toNat) = false := by
    unfold Builtin.Str.tooLong
    exact decide_eq_false (by omega)
  refine P.mul_str ?_ (fun _ _ => ?_) (fun _ _ => hlong) ?_
  · rw [decide_eq_false (by omega), decide_eq_false (by omega)]; rfl
  · have hz' : (z.length : Int) * n ≤ sizeLine := by
      have e : n = ((n.toNat : Nat) : Int) := by omega
      rw [e]
      exact_mod_cast hz
    have hsz : (sizeLine : Int) ≤ 2 ^ 63 - 1 := by decide
    intro hgt
    have h3 : (z.length : Int) ≤ (2 ^ 63 - 1) / n := (Int.le_ediv_iff_mul_le (by omega)).mpr (by omega)
    omega
  · rw [if_neg (by omega)]
    have fin : repS z n.toNat = ⟨(List.replicate n.toNat z.cps).foldl (· ++ ·) #[]⟩ := by
      rw [fold_app]; unfold repS; simp
    split
    · rename_i hh
      have ez : repS z n.toNat = z := by
        rcases Bool.or_eq_true_iff.mp hh with h | h
        · have e1 : n = 1 := by simpa using h
          subst e1
          unfold repS
          simp
        · have e0 : z.cps.toList = [] := by
            have : z.length = 0 := by simpa using h
            have : z.cps.size = 0 := this
            exact List.eq_nil_of_length_eq_zero (by rw [Array.length_toList]; exact this)
          obtain ⟨zc⟩ := z
          unfold repS
          dsimp only at e0 ⊢
          rw [e0]
          have : zc = #[] := by apply Array.ext'; exact e0
          rw [this]
          simp
      rw [ez] at q
      exact ⟨.str z, H, I, ⟨_, rfl⟩, q⟩
    · rw [← fin]
      refine ⟨?_, .str (repS z n.toNat), H, I.tok _, ⟨_, rfl⟩, q⟩
      rw [repS_len]; exact hz
def repD : DO := fun x y Q => match x, y with
  | .str z, .int n => 0 ≤ n ∧ n < 2 ^ 62 ∧ z.length * n.toNat ≤ sizeLine ∧ Q (.str (repS z n.toNat))
  | _, _ => False
theorem opA_repS {C : Cf} : OpA C rRepS repD := by
  intro H0 S0 Hs σ H s x y dx dy Q Q' r hx hy q k
  cases dx <;> cases dy <;> first | exact q.elim | skip
  case str.int z n => cases hx; cases hy; exact ⟨z, n, rfl, rfl, q.1, q.2.1, q.2.2.1, k Hs H _ (.str _) Go.refl r (Val.mkP (Rp.str _) rfl) q.2.2.2⟩

/-! ### dicts with texts as keys: display, get with a default -/
theorem lt_u1 {a b : Nat} (h : a + 65 < b) : a + 1 < b := by omega
def findS : List (D × D) → Str → Option D
  | [], _ => none
  | (.str k, d) :: r, x => if k = x then some d else findS r x
  | _ :: r, x => findS r x
structure SimP (C : Cf) (ks : List Str) (trs : List (TE × TE)) (t : DA) : Prop where
  run : ∀ (H0 S0 Hs : Hp) (σ : L2.St) (H : Hp) (s : S) (Q : List D → S → Prop) (Q' : List (V × V) → Hp → Prop), R C H0 S0 Hs σ H s → t s Q →
    (∀ Hs' H' kvs ds s', Go C σ Hs H Hs' H' → R C H0 S0 Hs' σ H' s' → RpKV C.K Hs' kvs ((ks.map PyData.str).zip ds) → kvs.map Prod.fst = ks.map Sum.inr → Q ds s' → Q' (kvs.map fun kv => (kV kv.1, kv.2)) H') → tPairs trs σ H Q'
def dDisp (ks : List Str) (a : DA) : DT := fun s Q => a s fun ds s1 => Q (.dict ((ks.map PyData.str).zip ds)) s1
def dGet2 (a b c : DT) : DT := fun s Q => a s fun d s1 => match d with
  | .dict kvs => b s1 fun k s2 => c s2 fun z s3 => (match k with
    | .str x => Q ((findS kvs x).getD z) s3
    | _ => False)
  | _ => False
theorem nodup_inr : ∀ {ks : List Str}, ks.Nodup → (ks.map (Sum.inr : Str → Key)).Nodup
  | [], _ => .nil
  | k :: ks, h => by
    obtain ⟨h1, h2⟩ := List.nodup_cons.mp h
    refine List.nodup_cons.mpr ⟨fun m => ?_, nodup_inr h2⟩
    obtain ⟨y, m, e⟩ := List.mem_map.mp m
    cases e
    exact h1 m
theorem merge_nodup : ∀ (kvs acc : List (Key × V)), (kvs.map Prod.fst).Nodup → (∀ k ∈ kvs.map Prod.fst, k ∉ acc.map Prod.fst) → mergeK acc kvs = acc ++ kvs
  | [], acc, _, _ => by rw [List.append_nil]; rfl
  | (k, v) :: r, acc, h, hd => by
    show mergeK (putK acc k v) r = _
    have hk : k ∉ acc.map Prod.fst := hd k (List.mem_cons_self ..)
    have e : putK acc k v = acc ++ [(k, v)] := by
      unfold putK
      rw [if_neg]
      intro z
      obtain ⟨p, m, e⟩ := List.any_eq_true.mp z
      exact hk (List.mem_map.mpr ⟨p, m, of_decide_eq_true e⟩)
    rw [e, merge_nodup r (acc ++ [(k, v)]) (List.nodup_cons.mp h).2 (fun k' m => ?_), List.append_assoc]
    · rfl
    · rw [List.map_append, List.mem_append]
      rintro (z | z)
      · exact hd k' (List.mem_cons_of_mem _ m) z
      · rw [List.map_cons, List.map_nil, List.mem_singleton] at z
        have z : k' = k := z
        rw [z] at m
        exact (List.nodup_cons.mp h).1 m
theorem find_rp {K : PySem.W.Frag} {H : Hp} {x : Str} : ∀ {kvs : List (Key × V)} {ds : List (D × D)}, RpKV K H kvs ds → (findS ds x = none ∧ valV kvs (.inr x) = none) ∨ ∃ d v, findS ds x = some d ∧ valV kvs (.inr x) = some v ∧ Rp K H v d
  | _, _, .nil => .inl ⟨rfl, rfl⟩
  | _, _, .cons (k := k) (v := v) (d := d) (vs := vs) (ds := ds) a b => by
    cases k with
    | inl i =>
      have e : findS ((keyD (.inl i), d) :: ds) x = findS ds x := rfl
      rw [e, valV_neg (p := (Sum.inl i, v)) (k := Sum.inr x) (fun z => nomatch z)]
      exact find_rp b
    | inr y =>
      by_cases h : y = x
      · subst h
        exact .inr ⟨d, v, if_pos rfl, valV_pos rfl, a⟩
      · have e : findS ((keyD (.inr y), d) :: ds) x = findS ds x := if_neg h
        rw [e, valV_neg (p := (Sum.inr y, v)) (k := Sum.inr x) (fun z => h (by injection z))]
        exact find_rp b
section
variable {C : Cf} {te ta tb tc : TE} {t da db dc : DT} {ca cb cc : Cat}
theorem simP_nil : SimP C [] [] dNil := ⟨fun H0 S0 Hs σ H s Q Q' r q k => k Hs H [] [] s Go.refl r .nil rfl q⟩
theorem simP_cons {ks : List Str} {k : Str} {trs : List (TE × TE)} {dr : DA} (ha : Sim C ca ta da) (hr : SimP C ks trs dr) : SimP C (k :: ks) ((tC (.str k), ta) :: trs) (dCons da dr) := by
  refine ⟨fun H0 S0 Hs σ H s Q Q' r q kk => ha.toE.run H0 S0 Hs σ H s _ _ r q fun Hs1 H1 x dx s1 g1 r1 v1 q1 => hr.run H0 S0 Hs1 σ H1 s1 _ _ r1 q1 fun Hs2 H2 kvs ds s2 g2 r2 v2 l2 q2 => ?_⟩
  exact kk Hs2 H2 ((.inr k, x) :: kvs) (dx :: ds) s2 (g1.trans g2) r2 (.cons (k := .inr k) (Rp.mono g2.st v1) v2) (by rw [List.map_cons, List.map_cons, l2]) q2
theorem sim_disp {ks : List Str} {trs : List (TE × TE)} {a : DA} (hk : ks.Nodup) (hl : ks.length ≤ 15) (h : SimP C ks trs a) : Sim C .F (tDisp trs) (dDisp ks a) := by
  refine ⟨fun H0 S0 Hs σ H s Q Q' r q k => fun p np => ?_⟩
  obtain ⟨f0, f1, f2, f3⟩ := r.free0 np
  have r0 := r.laid (o := .dK []) np
  have g0 : Go C σ Hs H Hs (L2.upd H p (.dK [])) := Go.laid np
  refine h.run H0 S0 Hs σ _ s _ _ r0 q fun Hs1 H1 kvs ds s1 g1 r1 v1 l1 q1 => ?_
  have p1 : H1 p = some (.dK []) := g1.kp p _ upd_same f2 f3
  have n1 : Hs1 p = none := none_of_new g1.nw f1 upd_same
  refine ⟨p1, kvs, rfl, ?_, ?_⟩
  · have := congrArg List.length l1
    rw [List.length_map, List.length_map] at this
    omega
  have em : mergeK [] kvs = kvs := by
    have := merge_nodup kvs [] (by rw [l1]; exact nodup_inr hk) (fun k _ m => nomatch m)
    rw [List.nil_append] at this
    exact this
  rw [em]
  have r2 := r1.updF (o := .dK kvs) n1 f0 f2
  have g2 : Go C σ Hs H Hs1 (L2.upd H1 p (.dK kvs)) := (g0.trans g1).updF np
  exact k Hs1 _ _ (.dict ((ks.map PyData.str).zip ds)) s1 g2 r2 (Val.mkC ⟨_, upd_same, n1, f0, np, .dic v1, f2⟩) q1
theorem sim_dget2 (ha : Sim C ca ta da) (hb : Sim C cb tb db) (hc : Sim C cc tc dc) : Sim C .E (tDGet2 ta tb tc) (dGet2 da db dc) := by
  refine ⟨fun H0 S0 Hs σ H s Q Q' r q k => ha.toE.run H0 S0 Hs σ H s _ _ r q fun Hs1 H1 x dx s1 g1 r1 v1 q1 => ?_⟩
  cases dx <;> first | exact q1.elim | skip
  have v1' : Rp C.K Hs1 x _ := v1
  cases v1' with
  | dic e1 e2 =>
  refine ⟨_, rfl, .inl ⟨_, .inl (r1.sub _ _ e1)⟩, ?_⟩
  refine hb.toE.run H0 S0 Hs1 σ H1 s1 _ _ r1 q1 fun Hs2 H2 y dy s2 g2 r2 v2 q2 => ?_
  refine hc.toE.run H0 S0 Hs2 σ H2 s2 _ _ r2 q2 fun Hs3 H3 z dz s3 g3 r3 v3 q3 => ?_
  cases dy <;> first | exact q3.elim | skip
  rename_i kx
  have v2' : Rp C.K Hs2 y _ := v2
  cases v2'
  have e1' := g3.st _ _ (g2.st _ _ e1)
  have e2' := RpKV.mono (g2.st.trans g3.st) e2
  refine ⟨_, .inl ⟨_, .inr kx, .inl (r3.sub _ _ e1'), rfl, rfl⟩, ?_⟩
  rcases find_rp (x := kx) e2' with ⟨f1, f2⟩ | ⟨d, v, f1, f2, f3⟩
  · rw [f2]
    simp only [f1] at q3
    exact k Hs3 H3 z dz s3 (g1.trans (g2.trans g3)) r3 v3 q3
  · rw [f2]
    simp only [f1] at q3
    exact k Hs3 H3 v d s3 (g1.trans (g2.trans g3)) r3 f3 q3
end


/-! ### methods that may raise -/
def OkMX (P : Program) (w : World) (K : PySem.W.Frag) (mg : Str → Option Value) (base : Heap) (C : Addr) (k : Nat) (m : Str) (ps : List Str) (sp : Sp) : Prop :=
  ∃ (f : Addr) (fd : FuncData), Meth K C m f ∧ Binds K fd ps [] ∧ FnGX P w K mg base k f fd ps sp
section
variable {P : Program} {w : World} {K : PySem.W.Frag} {mg : Str → Option Value} {base : Heap}
theorem FnGX.mono {j k : Nat} {f : Addr} {fd : FuncData} {ps : List Str} {sp : Sp} (F : FnGX P w K mg base j f fd ps sp) (h : j ≤ k) : FnGX P w K mg base k f fd ps sp :=
  ⟨F.len, fun A fs s H ar us vs Q E hr => F.run A fs s H ar us vs Q E (hr.mono h)⟩
theorem OkMX.mono {C : Addr} {m : Str} {ps : List Str} {j k : Nat} {sp : Sp} (h : OkMX P w K mg base C j m ps sp) (l : j ≤ k) : OkMX P w K mg base C k m ps sp := by
  obtain ⟨f, fd, hm, hb, F⟩ := h
  exact ⟨f, fd, hm, hb, F.mono l⟩
theorem OkMX.mk {m q : Str} {C : Addr} {st : Stmt} {N ps : List Str} {k : Nat} {sp : Sp} (D : Mt K C m q st ps) (S : FnScope N ps (defScope st)) (len : ∀ vs H Q E, sp vs H Q E → vs.length = ps.length)
    (hbody : ∀ (f : Addr) (cdv : Value) (A : Around) (outer : List Env) (s : Shared) (H : Hp) (vs : List V) (Q : VK) (E : XK), Rm k (A.deeper (envOfC q (defScope st) s.heap.objs.size f cdv)) → sp vs H Q E →
      ∃ t, PSs (cxOf (L2.CX P w) P w K mg base N q (defScope st) f cdv A outer s H E) (defBody st) t ∧ t { nx := fun _ H' => Q .non H', rt := Q } (start N vs) H) : OkMX P w K mg base C (k + 1) m ps sp := by
  obtain ⟨f, fd, F, b, g⟩ := D
  exact ⟨f, fd, g, b, Fun.okGX F S len fun cdv A outer s H vs Q E hr hg h => hbody f cdv A outer s H vs Q E ⟨hr, hg⟩ h⟩
end
section
variable {X : Cx}
theorem pe_mthX {pl : Sem Bool} {C : Addr} {k : Nat} {m : Str} {ps : List Str} {sp : Sp} {o e : Expr} {es : List Expr} {ta : TE} {t : TA} {apos pos : Pos} {E : XK} (he : PE X o ta) (c : Cls X.K C) (O : OkMX X.prog X.w X.K X.mg X.base C k m ps sp) (hr : Room k X.A) (gd : X.A.guards = some []) (tk : Takes X (fun cls d _ H => E cls d H)) (ha : PA X (e :: es) t)
    (hst : starEach (e :: es) X.env = (false, eval e X.env) :: starEach es X.env := by rfl) (hpl : (backTo pos (starEach es X.env)).any (·.1) = false := by rfl)
    (ht : eval (.Call (.Attribute o m apos) (e :: es) [] pos) X.env = (do
      let ov ← eval o X.env
      standAt apos.atName
      let (f, first) ← holding [ov] (getMethod ov m pl)
      callWith pos f first (backTo pos (starEach (e :: es) X.env)) (backToKw pos (keywordEach [] X.env))) := by rfl) :
    PE X (.Call (.Attribute o m apos) (e :: es) [] pos) (tMeth C m sp [] E ta t) := by
  obtain ⟨f, fd, hm, hb, F⟩ := O
  refine ⟨fun pins s σ H Q I h => PySem.W.methodCall_KW (pl := pl) (thn (he.run pins s σ H _ I h) fun u s1 ⟨y, H1, I1, ry, a, dx, fs, ey, ea, l, q⟩ => ?_) ht⟩
  subst ey
  obtain rfl : u = Value.ref a := ry
  exact getmeth_ok I1 ea c hm l (PySem.W.callWith_K (first := [.ref a]) (h₀ := X.base) I.ok.mod.kin hm.kp (thn (ha.run pos pins s1 σ H1 _ I1 q) fun us s2 ⟨vs, H2, I2, r, q2⟩ => ⟨I2.kIn, runGX (us := .ref a :: us) (vs := .ref a :: vs) (E := fun _ => E) F hr gd hb (passAt tk σ) I2 (.cons rfl r) (by have q3 : sp (V.ref a :: (vs ++ [])) H2 Q E := q2; rwa [List.append_nil] at q3)⟩) hst hpl)
theorem pe_mthX0 {pl : Sem Bool} {C : Addr} {k : Nat} {m : Str} {ps : List Str} {sp : Sp} {o : Expr} {ta : TE} {apos pos : Pos} {E : XK} (he : PE X o ta) (c : Cls X.K C) (O : OkMX X.prog X.w X.K X.mg X.base C k m ps sp) (hr : Room k X.A) (gd : X.A.guards = some []) (tk : Takes X (fun cls d _ H => E cls d H))
    (ht : eval (.Call (.Attribute o m apos) [] [] pos) X.env = (do
      let ov ← eval o X.env
      standAt apos.atName
      let (f, first) ← holding [ov] (getMethod ov m pl)
      callWith pos f first (backTo pos (starEach [] X.env)) (backToKw pos (keywordEach [] X.env))) := by rfl) :
    PE X (.Call (.Attribute o m apos) [] [] pos) (tMeth C m sp [] E ta tNil) := by
  obtain ⟨f, fd, hm, hb, F⟩ := O
  refine ⟨fun pins s σ H Q I h => PySem.W.methodCall_KW (pl := pl) (thn (he.run pins s σ H _ I h) fun u s1 ⟨y, H1, I1, ry, a, dx, fs, ey, ea, l, q⟩ => ?_) ht⟩
  subst ey
  obtain rfl : u = Value.ref a := ry
  exact getmeth_ok I1 ea c hm l (PySem.W.callWith_K0 (first := [.ref a]) I1.kIn hm.kp (runGX (us := [.ref a]) (vs := [.ref a]) (E := fun _ => E) F hr gd hb (passAt tk σ) I1 (.cons rfl .nil) q))
end
/-! ### an own exception with a field, over an own base without __init__ -/
structure XC (K : PySem.W.Frag) (mg : Str → Option Value) (CW CB fI : Addr) (x b f : Str) : Prop where
  g : mg x = some (.ref CW)
  gb : mg b = some (.ref CB)
  ox : OexC K CW
  nof : PySem.W.findIn K (.ref CW) f = some none
  iC : PySem.W.findIn K (.ref CW) "__init__" = some (some (.ref fI))
  tI : PySem.W.typeIn K (.ref fI) = some (.type "function")
  tyB : PySem.W.typeIn K (.ref CB) = some (.type "type")
  tp : PySem.W.nsIn K cStatics "thirdparty.any" = some none
  fb : PySem.W.findCls K (.ref CB) (.type "type") "__init__" = some (.val (.builtin "ValueError.__init__"))
  kB : PySem.W.keepIn K (.ref CB) = true
section
variable {X : Cx} {o e : Expr} {es : List Expr} {to te : TE} {ta : TA} {p p' p1 p2 pos : Pos}
theorem method_own {K : PySem.W.Frag} {prog : Program} {w : World} {A : Around} {E : Value → Shared → Prop} {s : Shared} {C : Addr} {name : Str} {v : Value} {pl : Sem Bool} {Q : Value × List Value → Shared → Prop} (KX : K.In s.heap) (ht : PySem.W.typeIn K (.ref C) = some (.type "type")) (tp : PySem.W.nsIn K cStatics "thirdparty.any" = some none)
    (e : PySem.W.findCls K (.ref C) (.type "type") name = some (.val v)) (hh : PySem.W.handedIn v = true) (h : Q (v, []) { s with toks := s.toks + 1 }) : wpAny (model prog w) A (getMethod (.ref C) name pl) Q E s := by
  have L0 : PySem.W.Looks (model prog w) s.heap (typeOf (.ref C)) (.type "type") := PySem.W.looks_typeIn KX ht
  have hg : PySem.W.findIn K (.type "type") "__getattribute__" = some (some (.builtin "type.__getattribute__")) := PySem.W.type_tga
  unfold getMethod specialOf
  refine wpAny_bind (wpAny_bind (L0.here ((PySem.W.looks_findIn KX hg).here ?_)))
  dsimp only
  rw [if_pos PySem.W.canon_tga]
  refine wpAny_bind (wpAny_mono (Q := fun v => Q (v, [])) (E := E) ?_ (fun _ _ z => wpAny_pure z) fun _ _ z => z)
  have LO : PySem.W.Looks (model prog w) s.heap (opaqueClassAbove (.ref C)) none := PySem.W.looks_opaque KX tp
  refine PySem.W.cls_open KX LO L0 hg (PySem.W.looks_hook KX (r := none) (by rfl)) (by show PySem.W.subIn K _ _ = _; rfl) e
    (wpAny_pure (by show wpAny _ _ (handedOut v) _ _ _; rw [PySem.W.handedOut_of hh]; exact wpAny_pure h))
theorem pe_binit {pl : Sem Bool} {CW CB fI : Addr} {x b f : Str} (T : XC X.K X.mg CW CB fI x b f) (hg : Gl X b) (ha : PA X (e :: es) ta) (hdb : (b == ("__debug__" : Str)) = false := by decide)
    (hc : eval (.Call (.Attribute (.Name b p1) "__init__" p2) (e :: es) [] pos) X.env = (do
      let ov ← eval (.Name b p1) X.env
      standAt p2.atName
      let (f, first) ← holding [ov] (getMethod ov "__init__" pl)
      callWith pos f first (backTo pos (starEach (e :: es) X.env)) (backToKw pos (keywordEach [] X.env))) := by rfl)
    (he : starEach (e :: es) X.env = (false, eval e X.env) :: starEach es X.env := by rfl) (hpl : (backTo pos (starEach es X.env)).any (·.1) = false := by rfl) :
    PE X (.Call (.Attribute (.Name b p1) "__init__" p2) (e :: es) [] pos) (tVeI X.K ta) := by
  refine ⟨fun pins s σ H Q I h => ?_⟩
  refine PySem.W.methodCall_KW (ld_glob I hg T.gb ?_ hdb) hc
  refine method_own I.kIn T.tyB T.tp T.fb (by decide +kernel) ?_
  show wpAny _ _ (callWith pos (Value.builtin "ValueError.__init__") [] (backTo pos (starEach (e :: es) X.env)) []) _ _ _
  refine PyProof.Rows.callWith_method1 (thn (ha.run pos pins _ σ H _ (I.tok _) h) fun us s1 ⟨vs, H1, I1, r1, a, C, ws, ev, hl, TT, ea, q⟩ => ?_) he hpl
  subst ev
  cases r1 with
  | @cons _ u0 _ ur ra rw' =>
    obtain rfl : u0 = Value.ref a := ra
    have hlen : ur.length ≤ sizeLine := by
      rw [← Paired.length rw', sizeLine_eq]
      omega
    exact oinit_ok TT I1 ea hlen fun s' J => ⟨.non, H1, J, rfl, q⟩
end
def spXi (C : Addr) (f : Str) : Sp := fun vs H Q _ => ∃ (a : Addr) (v : V), vs = [.ref a, v] ∧ H a = some (exo a C none) ∧ ∀ dx, H dx = none → dx ≠ a → Q .non (upd (upd H dx (exd dx [(f, v)])) a (exo a C (some dx)))
/-- the heap behind the raise: the error's dict, new -/
theorem xi_raise {C a d : Addr} {f : Str} {v : V} {H1 : Hp} (ha : H1 a = none) (hd : (upd H1 a (exo a C none)) d = none) (ne : d ≠ a) :
    H1 d = none ∧ Same H1 (upd (del (upd (upd (upd H1 a (exo a C none)) d (exd d [(f, v)])) a (exo a C (some d))) a) d (.xd [(f, v)])) := by
  have h1 : H1 d = none := by rw [upd_ne ne] at hd; exact hd
  refine ⟨h1, fun b o e => ?_⟩
  have n1 : b ≠ d := ne_of_none e h1
  have n2 : b ≠ a := ne_of_none e ha
  rw [upd_ne n1, del_ne n2, upd_ne n2, upd_ne n1, upd_ne n2]
  exact e

def topS (i : Nat) : Stmt := PySem.Challenge.pw_leapwork_k50_whole_there_and_back.main.body.getD i (.Pass ⟨0, 0, 0, 0⟩)
abbrev s_read : Stmt := topS 21
theorem sc_read : FnScope ["writing", "scribe", "found"] ["writing"] (defScope s_read) := ⟨rfl, rfl, rfl, by decide +kernel, rfl, by decide +kernel, by decide +kernel⟩
abbrev s__law_spread : Stmt := topS 23
theorem sc__law_spread : FnScope ["_law_cell", "_law_at", "_law_primes", "_law_one", "_law_two", "_law_three"] ["_law_cell", "_law_at"] (defScope s__law_spread) := ⟨rfl, rfl, rfl, by decide +kernel, rfl, by decide +kernel, by decide +kernel⟩
abbrev s__law_open : Stmt := topS 24
theorem sc__law_open : FnScope ["_law_script", "_law_cells", "_law_k", "_law_cell"] ["_law_script"] (defScope s__law_open) := ⟨rfl, rfl, rfl, by decide +kernel, rfl, by decide +kernel, by decide +kernel⟩
abbrev s__law_take : Stmt := topS 25
theorem sc__law_take : FnScope ["_law_pen", "_law_many", "_law_at", "_law_cell", "_law_found"] ["_law_pen", "_law_many"] (defScope s__law_take) := ⟨rfl, rfl, rfl, by decide +kernel, rfl, by decide +kernel, by decide +kernel⟩
abbrev s__law_wnumber : Stmt := topS 26
theorem sc__law_wnumber : FnScope ["_law_pen", "_law_way", "_law_size", "_law_number", "_law_k"] ["_law_pen"] (defScope s__law_wnumber) := ⟨rfl, rfl, rfl, by decide +kernel, rfl, by decide +kernel, by decide +kernel⟩
abbrev s__law_wshow : Stmt := topS 27
theorem sc__law_wshow : FnScope ["_law_thing", "_law_part"] ["_law_thing"] (defScope s__law_wshow) := ⟨rfl, rfl, rfl, by decide +kernel, rfl, by decide +kernel, by decide +kernel⟩
abbrev s__law_wword : Stmt := topS 28
theorem sc__law_wword : FnScope ["_law_pen", "_law_letters", "_law_size", "_law_k"] ["_law_pen"] (defScope s__law_wword) := ⟨rfl, rfl, rfl, by decide +kernel, rfl, by decide +kernel, by decide +kernel⟩
abbrev s__law_wpart : Stmt := topS 29
theorem sc__law_wpart : FnScope ["_law_pen", "_law_deep", "_law_way", "_law_k"] ["_law_pen", "_law_deep"] (defScope s__law_wpart) := ⟨rfl, rfl, rfl, by decide +kernel, rfl, by decide +kernel, by decide +kernel⟩
abbrev s__law_wtree : Stmt := topS 30
theorem sc__law_wtree : FnScope ["_law_pen", "_law_deep", "_law_found", "_law_k", "_law_row", "_law_turn", "_law_at"] ["_law_pen", "_law_deep"] (defScope s__law_wtree) := ⟨rfl, rfl, rfl, by decide +kernel, rfl, by decide +kernel, by decide +kernel⟩
abbrev s__law_wstep : Stmt := topS 31
theorem sc__law_wstep : FnScope ["_law_state", "_law_many", "_law_depth", "_law_sign", "_law_small"] ["_law_state", "_law_many", "_law_depth", "_law_sign"] (defScope s__law_wstep) := ⟨rfl, rfl, rfl, by decide +kernel, rfl, by decide +kernel, by decide +kernel⟩
abbrev s__law_wend : Stmt := topS 32
theorem sc__law_wend : FnScope ["_law_signs", "_law_found", "_law_at", "_law_sign", "_law_following"] ["_law_signs"] (defScope s__law_wend) := ⟨rfl, rfl, rfl, by decide +kernel, rfl, by decide +kernel, by decide +kernel⟩
abbrev s__law_wread : Stmt := topS 33
theorem sc__law_wread : FnScope ["_law_signs", "_law_caught", "_law_told", "_law_others", "_law_place"] ["_law_signs"] (defScope s__law_wread) := ⟨rfl, rfl, rfl, by decide +kernel, rfl, by decide +kernel, by decide +kernel⟩
abbrev s__law_wleaf : Stmt := topS 34
theorem sc__law_wleaf : FnScope ["_law_thing", "_law_sign"] ["_law_thing"] (defScope s__law_wleaf) := ⟨rfl, rfl, rfl, by decide +kernel, rfl, by decide +kernel, by decide +kernel⟩
abbrev s__law_wgood : Stmt := topS 35
theorem sc__law_wgood : FnScope ["_law_thing", "_law_part"] ["_law_thing"] (defScope s__law_wgood) := ⟨rfl, rfl, rfl, by decide +kernel, rfl, by decide +kernel, by decide +kernel⟩
abbrev s__law_wsign : Stmt := topS 36
theorem sc__law_wsign : FnScope ["_law_pen", "_law_often", "_law_rare"] ["_law_pen"] (defScope s__law_wsign) := ⟨rfl, rfl, rfl, by decide +kernel, rfl, by decide +kernel, by decide +kernel⟩
abbrev s__law_wgone : Stmt := topS 37
theorem sc__law_wgone : FnScope ["_law_pen", "_law_signs", "_law_size", "_law_menu", "_law_found", "_law_state", "_law_k", "_law_some", "_law_sign", "_law_loose"] ["_law_pen", "_law_signs", "_law_size"] (defScope s__law_wgone) := ⟨rfl, rfl, rfl, by decide +kernel, rfl, by decide +kernel, by decide +kernel⟩
abbrev s__law_wdrawn : Stmt := topS 38
theorem sc__law_wdrawn : FnScope ["_law_pen", "_law_way", "_law_k", "_law_signs"] ["_law_pen"] (defScope s__law_wdrawn) := ⟨rfl, rfl, rfl, by decide +kernel, rfl, by decide +kernel, by decide +kernel⟩
abbrev s__law_wclosed : Stmt := topS 39
theorem sc__law_wclosed : FnScope ["_law_signs", "_law_state", "_law_place", "_law_ends"] ["_law_signs"] (defScope s__law_wclosed) := ⟨rfl, rfl, rfl, by decide +kernel, rfl, by decide +kernel, by decide +kernel⟩
abbrev s__law_whole : Stmt := topS 40
theorem sc__law_whole : FnScope ["_law_pen", "_law_signs", "_law_told", "_law_place", "_law_tail", "_law_k", "_law_cut", "_law_ended", "_law_again"] ["_law_pen", "_law_signs"] (defScope s__law_whole) := ⟨rfl, rfl, rfl, by decide +kernel, rfl, by decide +kernel, by decide +kernel⟩
abbrev s_law : Stmt := topS 41
theorem sc_law : FnScope ["_law_script", "_law_pen", "_law_turn"] ["_law_script"] (defScope s_law) := ⟨rfl, rfl, rfl, by decide +kernel, rfl, by decide +kernel, by decide +kernel⟩
abbrev s_Scribe___init__ : Stmt := inClass (topS 20) 0
theorem sc_Scribe___init__ : FnScope ["self", "signs"] ["self", "signs"] (defScope s_Scribe___init__) := ⟨rfl, rfl, rfl, by decide +kernel, rfl, by decide +kernel, by decide +kernel⟩
abbrev s_Scribe_sign_ahead : Stmt := inClass (topS 20) 1
theorem sc_Scribe_sign_ahead : FnScope ["self"] ["self"] (defScope s_Scribe_sign_ahead) := ⟨rfl, rfl, rfl, by decide +kernel, rfl, by decide +kernel, by decide +kernel⟩
abbrev s_Scribe_need_sign : Stmt := inClass (topS 20) 2
theorem sc_Scribe_need_sign : FnScope ["self", "some", "sign"] ["self", "some"] (defScope s_Scribe_need_sign) := ⟨rfl, rfl, rfl, by decide +kernel, rfl, by decide +kernel, by decide +kernel⟩
abbrev s_Scribe_run_of : Stmt := inClass (topS 20) 3
theorem sc_Scribe_run_of : FnScope ["self", "some", "most", "end", "found"] ["self", "some", "most"] (defScope s_Scribe_run_of) := ⟨rfl, rfl, rfl, by decide +kernel, rfl, by decide +kernel, by decide +kernel⟩
abbrev s_Scribe_whole_number : Stmt := inClass (topS 20) 4
theorem sc_Scribe_whole_number : FnScope ["self", "turned", "first", "number"] ["self"] (defScope s_Scribe_whole_number) := ⟨rfl, rfl, rfl, by decide +kernel, rfl, by decide +kernel, by decide +kernel⟩
abbrev s_Scribe_any_part : Stmt := inClass (topS 20) 5
theorem sc_Scribe_any_part : FnScope ["self", "sign"] ["self"] (defScope s_Scribe_any_part) := ⟨rfl, rfl, rfl, by decide +kernel, rfl, by decide +kernel, by decide +kernel⟩
abbrev s_Scribe_brackets : Stmt := inClass (topS 20) 6
theorem sc_Scribe_brackets : FnScope ["self", "parts"] ["self"] (defScope s_Scribe_brackets) := ⟨rfl, rfl, rfl, by decide +kernel, rfl, by decide +kernel, by decide +kernel⟩
structure C_Scribe (K : PySem.W.Frag) (mg : Str → Option Value) (C : Addr) : Prop where
  k : Kl K mg C "Scribe" "Scribe.__init__" s_Scribe___init__ ["self", "signs"]
  n_signs : NoAttr K C "signs"
  n_spot : NoAttr K C "spot"
  n_depth : NoAttr K C "depth"
  m_sign_ahead : Mt K C "sign_ahead" "Scribe.sign_ahead" s_Scribe_sign_ahead ["self"]
  m_need_sign : Mt K C "need_sign" "Scribe.need_sign" s_Scribe_need_sign ["self", "some"]
  m_run_of : Mt K C "run_of" "Scribe.run_of" s_Scribe_run_of ["self", "some", "most"]
  m_whole_number : Mt K C "whole_number" "Scribe.whole_number" s_Scribe_whole_number ["self"]
  m_any_part : Mt K C "any_part" "Scribe.any_part" s_Scribe_any_part ["self"]
  m_brackets : Mt K C "brackets" "Scribe.brackets" s_Scribe_brackets ["self"]
abbrev s_NoWriting___init__ : Stmt := inClass (topS 3) 0
theorem sc_NoWriting___init__ : FnScope ["self", "place"] ["self", "place"] (defScope s_NoWriting___init__) := ⟨rfl, rfl, rfl, by decide +kernel, rfl, by decide +kernel, by decide +kernel⟩
structure X_NoWriting (K : PySem.W.Frag) (mg : Str → Option Value) (CW CB fI : Addr) : Prop where
  c : XC K mg CW CB fI "NoWriting" "WorkError" "place"
  f : ∃ fd, Fun K "__init__" "NoWriting.__init__" s_NoWriting___init__ fI fd ∧ Binds K fd ["self", "place"] []
  xc : ExcC K CW
  te : PySem.W.exmOne K (.ref CW) (.ref CB) = some true
  own : PySem.W.kitOne K (.ref CW) (.ref CW) = some true
  ve : PySem.W.kitOne K (.ref CW) (.type "ValueError") = some true
  o_NoText : ∃ C, mg "NoText" = some (.ref C) ∧ PySem.W.kitOne K (.ref CW) (.ref C) = some false
  o_NoName : ∃ C, mg "NoName" = some (.ref C) ∧ PySem.W.kitOne K (.ref CW) (.ref C) = some false
  o_Standing : ∃ C, mg "Standing" = some (.ref C) ∧ PySem.W.kitOne K (.ref CW) (.ref C) = some false
  o_Full : ∃ C, mg "Full" = some (.ref C) ∧ PySem.W.kitOne K (.ref CW) (.ref C) = some false
  o_NoMark : ∃ C, mg "NoMark" = some (.ref C) ∧ PySem.W.kitOne K (.ref CW) (.ref C) = some false
  o_BadLine : ∃ C, mg "BadLine" = some (.ref C) ∧ PySem.W.kitOne K (.ref CW) (.ref C) = some false
  o_NoInputs : ∃ C, mg "NoInputs" = some (.ref C) ∧ PySem.W.kitOne K (.ref CW) (.ref C) = some false
  o_NoTicks : ∃ C, mg "NoTicks" = some (.ref C) ∧ PySem.W.kitOne K (.ref CW) (.ref C) = some false
  o_NoWorths : ∃ C, mg "NoWorths" = some (.ref C) ∧ PySem.W.kitOne K (.ref CW) (.ref C) = some false
  o_NoGoal : ∃ C, mg "NoGoal" = some (.ref C) ∧ PySem.W.kitOne K (.ref CW) (.ref C) = some false
  o_NoPaper : ∃ C, mg "NoPaper" = some (.ref C) ∧ PySem.W.kitOne K (.ref CW) (.ref C) = some false
structure Tx (K : PySem.W.Frag) (mg : Str → Option Value) : Prop where
  d_read : Df K mg "read" s_read ["writing"]
  d__law_spread : Df K mg "_law_spread" s__law_spread ["_law_cell", "_law_at"]
  d__law_open : Df K mg "_law_open" s__law_open ["_law_script"]
  d__law_take : Df K mg "_law_take" s__law_take ["_law_pen", "_law_many"]
  d__law_wnumber : Df K mg "_law_wnumber" s__law_wnumber ["_law_pen"]
  d__law_wshow : Df K mg "_law_wshow" s__law_wshow ["_law_thing"]
  d__law_wword : Df K mg "_law_wword" s__law_wword ["_law_pen"]
  d__law_wpart : Df K mg "_law_wpart" s__law_wpart ["_law_pen", "_law_deep"]
  d__law_wtree : Df K mg "_law_wtree" s__law_wtree ["_law_pen", "_law_deep"]
  d__law_wstep : Df K mg "_law_wstep" s__law_wstep ["_law_state", "_law_many", "_law_depth", "_law_sign"]
  d__law_wend : Df K mg "_law_wend" s__law_wend ["_law_signs"]
  d__law_wread : Df K mg "_law_wread" s__law_wread ["_law_signs"]
  d__law_wleaf : Df K mg "_law_wleaf" s__law_wleaf ["_law_thing"]
  d__law_wgood : Df K mg "_law_wgood" s__law_wgood ["_law_thing"]
  d__law_wsign : Df K mg "_law_wsign" s__law_wsign ["_law_pen"]
  d__law_wgone : Df K mg "_law_wgone" s__law_wgone ["_law_pen", "_law_signs", "_law_size"]
  d__law_wdrawn : Df K mg "_law_wdrawn" s__law_wdrawn ["_law_pen"]
  d__law_wclosed : Df K mg "_law_wclosed" s__law_wclosed ["_law_signs"]
  d__law_whole : Df K mg "_law_whole" s__law_whole ["_law_pen", "_law_signs"]
  d_law : Df K mg "law" s_law ["_law_script"]
  z_ValueError : mg "ValueError" = none
  z_all : mg "all" = none
  z_bool : mg "bool" = none
  z_enumerate : mg "enumerate" = none
  z_int : mg "int" = none
  z_isinstance : mg "isinstance" = none
  z_len : mg "len" = none
  z_list : mg "list" = none
  z_min : mg "min" = none
  z_range : mg "range" = none
  z_str : mg "str" = none
  z_tuple : mg "tuple" = none
  c_Scribe : ∃ C, C_Scribe K mg C
  x_NoWriting : ∃ CW CB fI, X_NoWriting K mg CW CB fI
  g_MOST_LETTERS : Gv mg "MOST_LETTERS" (.int 8)
  g_MOST_FIGURES : Gv mg "MOST_FIGURES" (.int 30)
  g_MOST_BRACKETS : Gv mg "MOST_BRACKETS" (.int 40)
  g_SMALL : Gv mg "SMALL" (.str "abcdefghijklmnopqrstuvwxyz")
  g_FIGURES : Gv mg "FIGURES" (.str "0123456789")
/-! ### the draws: _law_spread, _law_open, _law_take -/
section
variable {P : Program} {w : World} {K : PySem.W.Frag} {mg : Str → Option Value} {base : Heap}
theorem pw_lt {x : Int} {n : Nat} (h0 : 0 ≤ x) (h : x < 2 ^ 64) : x.natAbs < 2 ^ 64 := by omega
theorem ok__law_spread (T : Tx K mg) : Ok P w K mg base 1 "_law_spread" ["_law_cell", "_law_at"] spSpread := by
  refine Ok.mk T.d__law_spread sc__law_spread (fun vs H Q E h => ?_) (fun f cdv A outer s H vs Q E hr h => ?_)
  · obtain ⟨c, a, rfl, _⟩ := h
    rfl
  obtain ⟨c, a, rfl, h0, h1, q⟩ := h
  refine ⟨_, (pss_cons (ps_if (pt_cmpR op_ge (pv 0) (pe_op op_pow (pe_int) (pe_int)) (nomark _))
 (pss_one (ps_ret (pv 0)))
 (pss_nil))
 (pss_cons (ps_set (i := 2) sc__law_spread.nd rfl (Or.inl rfl) (pe_lst (pa_cons (pe_int) (pa_cons (pe_int) (pa_cons (pe_int) (pa_cons (pe_int) (pa_cons (pe_int) (pa_cons (pe_int) (pa_cons (pe_int) (pa_cons (pe_int) (pa_nil)))))))))))
 (pss_cons (ps_set (i := 2) sc__law_spread.nd rfl (Or.inl rfl) (pe_op op_cat (pv 2) (pe_lst (pa_cons (pe_int) (pa_cons (pe_int) (pa_cons (pe_int) (pa_cons (pe_int) (pa_cons (pe_int) (pa_nil)))))))))
 (pss_cons (ps_set (i := 3) sc__law_spread.nd rfl (Or.inl rfl) (pe_op op_mod (pe_op op_pow (pe_op op_add (pe_op op_add (pe_op op_mul (pe_op op_mod (pv 0) (pe_int)) (pe_op op_add (pe_op op_mul (pe_int) (pv 1)) (pe_int))) (pe_op op_mul (pv 1) (pe_int))) (pe_int)) (pe_int)) (pe_ix (ixL K rfl) (pv 2) (pe_op op_mod (pv 1) (pe_int)) (fun _ _ => rfl))))
 (pss_cons (ps_set (i := 4) sc__law_spread.nd rfl (Or.inl rfl) (pe_op op_mod (pe_op op_pow (pe_op op_add (pe_op op_add (pe_op op_mul (pv 3) (pe_op op_add (pv 1) (pe_int))) (pe_op op_mod (pv 0) (pe_int))) (pe_int)) (pe_int)) (pe_ix (ixL K rfl) (pv 2) (pe_op op_mod (pe_op op_add (pv 1) (pe_int)) (pe_int)) (fun _ _ => rfl))))
 (pss_cons (ps_set (i := 5) sc__law_spread.nd rfl (Or.inl rfl) (pe_op op_mod (pe_op op_pow (pe_op op_add (pe_op op_add (pv 4) (pe_op op_mod (pv 3) (pe_int))) (pv 1)) (pe_int)) (pe_ix (ixL K rfl) (pv 2) (pe_op op_mod (pe_op op_add (pv 1) (pe_int)) (pe_int)) (fun _ _ => rfl))))
 (pss_one (ps_ret (pe_op op_add (pe_op op_mul (pe_op op_add (pe_op op_mul (pv 3) (pe_int)) (pv 4)) (pe_int)) (pv 5)))))))))), ?_⟩
  refine ⟨_, rfl, _, _, rfl, rfl, ⟨by decide, by decide, by decide⟩, _, _, rfl, rfl, _, rfl, ite2 (fun e => ?_) (fun e => ?_)⟩
  · have e := of_decide_eq_true e
    refine ⟨_, rfl, ?_⟩
    refine q c H (Int.le_trans (by decide) e) (Same.refl H)
  · refine ⟨by show 8 ≤ sizeLine; decide, fun p1 n1 => ?_⟩
    have s1 := same_upd (o := .lst [V.int 2147483629, .int 2147483587, .int 2147483579, .int 2147483563, .int 2147483549, .int 2147483543, .int 2147483497, .int 2147483489]) n1
    refine ⟨_, rfl, ?_⟩
    refine ⟨by show 5 ≤ sizeLine; decide, fun p2 n2 => ?_⟩
    have s2 := same_upd (o := .lst [V.int 2147483477, .int 2147483423, .int 2147483399, .int 2147483353, .int 2147483323]) n2
    have n12 : p1 ≠ p2 := fun z => by rw [← z, upd_same] at n2; cases n2
    refine ⟨p1, p2, _, _, rfl, rfl, by rw [upd_ne n12]; exact upd_same, upd_same, by show 8 + 5 ≤ sizeLine; decide, fun p3 n3 => ?_⟩
    have s3 := same_upd (o := .lst ([V.int 2147483629, .int 2147483587, .int 2147483579, .int 2147483563, .int 2147483549, .int 2147483543, .int 2147483497, .int 2147483489] ++ [V.int 2147483477, .int 2147483423, .int 2147483399, .int 2147483353, .int 2147483323])) n3
    have hL : SqL K (upd (upd (upd H p1 (.lst [V.int 2147483629, .int 2147483587, .int 2147483579, .int 2147483563, .int 2147483549, .int 2147483543, .int 2147483497, .int 2147483489])) p2 (.lst [V.int 2147483477, .int 2147483423, .int 2147483399, .int 2147483353, .int 2147483323])) p3 (.lst ([V.int 2147483629, .int 2147483587, .int 2147483579, .int 2147483563, .int 2147483549, .int 2147483543, .int 2147483497, .int 2147483489] ++ [V.int 2147483477, .int 2147483423, .int 2147483399, .int 2147483353, .int 2147483323]))) p3 ([2147483629, 2147483587, 2147483579, 2147483563, 2147483549, 2147483543, 2147483497, 2147483489, 2147483477, 2147483423, 2147483399, 2147483353, 2147483323].map V.int) := SqL.of upd_same
    have sH := s1.trans (s2.trans s3)
    generalize (upd (upd (upd H p1 (.lst [V.int 2147483629, .int 2147483587, .int 2147483579, .int 2147483563, .int 2147483549, .int 2147483543, .int 2147483497, .int 2147483489])) p2 (.lst [V.int 2147483477, .int 2147483423, .int 2147483399, .int 2147483353, .int 2147483323])) p3 (.lst ([V.int 2147483629, .int 2147483587, .int 2147483579, .int 2147483563, .int 2147483549, .int 2147483543, .int 2147483497, .int 2147483489] ++ [V.int 2147483477, .int 2147483423, .int 2147483399, .int 2147483353, .int 2147483323]))) = H3 at hL sH ⊢
    have prime : ∀ i : Int, 0 ≤ i → ∃ pr : Int, atI ([2147483629, 2147483587, 2147483579, 2147483563, 2147483549, 2147483543, 2147483497, 2147483489, 2147483477, 2147483423, 2147483399, 2147483353, 2147483323].map V.int) (i % 13) = some (.int pr) ∧ 0 < pr ∧ pr < 2147483647 := fun i hi => by
      have h1 : 0 ≤ i % 13 := Int.emod_nonneg _ (by decide)
      have h2 : i % 13 < 13 := Int.emod_lt_of_pos _ (by decide)
      generalize i % 13 = k at h1 h2
      have hk : k = 0 ∨ k = 1 ∨ k = 2 ∨ k = 3 ∨ k = 4 ∨ k = 5 ∨ k = 6 ∨ k = 7 ∨ k = 8 ∨ k = 9 ∨ k = 10 ∨ k = 11 ∨ k = 12 := by omega
      rcases hk with rfl | rfl | rfl | rfl | rfl | rfl | rfl | rfl | rfl | rfl | rfl | rfl | rfl <;> exact ⟨_, rfl, by decide, by decide⟩
    obtain ⟨q1, a1, b1, c1⟩ := prime a h0
    obtain ⟨q2, a2, b2, c2⟩ := prime (a + 5) (by omega)
    obtain ⟨q3, a3, b3, c3⟩ := prime (a + 7) (by omega)
    have u0 : 0 ≤ c % 1000000007 := Int.emod_nonneg _ (by decide)
    have u1 : c % 1000000007 < 1000000007 := Int.emod_lt_of_pos _ (by decide)
    have v0 : 0 ≤ c % 65537 := Int.emod_nonneg _ (by decide)
    have v1 : c % 65537 < 65537 := Int.emod_lt_of_pos _ (by decide)
    have e1 : 0 ≤ c % 1000000007 * (2 * a + 69069) := Int.mul_nonneg u0 (by omega)
    have e2 : c % 1000000007 * (2 * a + 69069) ≤ 1000000007 * 2000069069 := Int.mul_le_mul (by omega) (by omega) (by omega) (by omega)
    -- one
    refine ⟨_, rfl, _, _, rfl, rfl, (by show (0 : Int) < _; decide), _, rfl, _, _, rfl, rfl, .inl ⟨by decide, by decide⟩, _, _, rfl, rfl, _, _, rfl, rfl, .inl ⟨by omega, by omega⟩, _, rfl, _, _, rfl, rfl, .inr ⟨by decide, by decide⟩, _, _, rfl, rfl, _, _, rfl, rfl, _, _, rfl, rfl, ⟨by decide, by decide, by omega⟩,
      _, rfl, _, rfl, _, _, rfl, rfl, (by show (0 : Int) < _; decide), _, _, _, _, rfl, rfl, hL, a1, _, _, rfl, rfl, b1, ?_⟩
    have w0 : 0 ≤ (c % 1000000007 * (2 * a + 69069) + a * 40503 + 977) ^ 3 % q1 := Int.emod_nonneg _ (by omega)
    have w1 : (c % 1000000007 * (2 * a + 69069) + a * 40503 + 977) ^ 3 % q1 < q1 := Int.emod_lt_of_pos _ b1
    dsimp only [Int.reduceToNat]
    generalize (c % 1000000007 * (2 * a + 69069) + a * 40503 + 977) ^ 3 % q1 = o1 at w0 w1 ⊢
    have e3 : 0 ≤ o1 * (a + 3) := Int.mul_nonneg w0 (by omega)
    have e4 : o1 * (a + 3) ≤ 2147483647 * 1000000003 := Int.mul_le_mul (by omega) (by omega) (by omega) (by omega)
    -- two
    refine ⟨_, rfl, _, rfl, _, _, rfl, rfl, _, _, rfl, rfl, .inl ⟨by omega, by omega⟩, _, rfl, _, _, rfl, rfl, (by show (0 : Int) < _; decide), _, _, rfl, rfl, _, _, rfl, rfl, _, _, rfl, rfl, ⟨by decide, by decide, by omega⟩,
      _, rfl, _, rfl, _, _, rfl, rfl, _, _, rfl, rfl, (by show (0 : Int) < _; decide), _, _, _, _, rfl, rfl, hL, a2, _, _, rfl, rfl, b2, ?_⟩
    have w2 : 0 ≤ (o1 * (a + 3) + c % 65537 + 5) ^ 5 % q2 := Int.emod_nonneg _ (by omega)
    have w3 : (o1 * (a + 3) + c % 65537 + 5) ^ 5 % q2 < q2 := Int.emod_lt_of_pos _ b2
    dsimp only [Int.reduceToNat]
    generalize (o1 * (a + 3) + c % 65537 + 5) ^ 5 % q2 = o2 at w2 w3 ⊢
    have x0 : 0 ≤ o1 % 1009 := Int.emod_nonneg _ (by decide)
    have x1 : o1 % 1009 < 1009 := Int.emod_lt_of_pos _ (by decide)
    -- three
    refine ⟨_, rfl, _, rfl, _, _, rfl, rfl, (by show (0 : Int) < _; decide), _, _, rfl, rfl, _, rfl, _, _, rfl, rfl, _, _, rfl, rfl, ⟨by decide, by decide, by omega⟩,
      _, rfl, _, rfl, _, _, rfl, rfl, _, _, rfl, rfl, (by show (0 : Int) < _; decide), _, _, _, _, rfl, rfl, hL, a3, _, _, rfl, rfl, b3, ?_⟩
    have w4 : 0 ≤ (o2 + o1 % 1009 + a) ^ 3 % q3 := Int.emod_nonneg _ (by omega)
    dsimp only [Int.reduceToNat]
    generalize (o2 + o1 % 1009 + a) ^ 3 % q3 = o3 at w4 ⊢
    -- the answer
    refine ⟨_, rfl, _, _, rfl, rfl, .inr ⟨by decide, by decide⟩, _, rfl, _, _, rfl, rfl, _, _, rfl, rfl, .inr ⟨by decide, by decide⟩, _, rfl, _, _, rfl, rfl, ?_⟩
    exact q _ H3 (by omega) sH
theorem ok__law_open (T : Tx K mg) : Ok P w K mg base 1 "_law_open" ["_law_script"] (spOpen K) := by
  refine Ok.mk T.d__law_open sc__law_open (fun vs H Q E h => ?_) (fun f cdv A outer s H vs Q E hr h => ?_)
  · obtain ⟨a, ns, rfl, _⟩ := h
    rfl
  obtain ⟨a, ns, rfl, hS, hl, q⟩ := h
  refine ⟨_, (pss_cons (ps_set (i := 1) sc__law_open.nd rfl (Or.inl rfl) (pe_callTy (listQ K rfl) (by rfl) T.z_list (by decide +kernel) (pa_cons (pe_slice (slL K rfl) (pv 0) po_none (po_some (pe_int))) (pa_nil))))
 (pss_cons (ps_for PassesOwn.never rfl (piE K rfl (by rfl) T.z_enumerate (pa_cons (pe_slice (slL K rfl) (pv 0) (po_some (pe_int)) (po_some (pe_int))) (pa_nil))) (pgT K rfl 2 rfl (pgs_cons (pg_nameL (i := 2) sc__law_open.nd rfl rfl) (pgs_cons (pg_nameL (i := 3) sc__law_open.nd rfl rfl) (pgs_nil))))
 (pss_one (ps_asg (pe_op op_add (pe_ix (ixL K rfl) (pv 1) (pe_op op_mod (pv 2) (pe_int)) (fun _ _ => rfl)) (pv 3)) (pg_sub (pv 1) (pe_op op_mod (pv 2) (pe_int)) set_list))))
 (pss_one (ps_ret (pe_lst (pa_cons (pv 1) (pa_cons (pe_int) (pa_cons (pe_int) (pa_nil))))))))), ?_⟩
  -- cells = list(script[:12])
  refine ⟨.ref a, rfl, _, rfl, a, ns.map V.int, rfl, hS, fun t1 n1 => ?_⟩
  have s1 := same_upd (o := .lst (cutV (ns.map V.int) none (some 12))) n1
  refine ⟨t1, _, rfl, .inl (SqL.of upd_same), fun c n2 => ?_⟩
  have s2 := same_upd (o := .lst (cutV (ns.map V.int) none (some 12))) n2
  have e12 : cutV (ns.map V.int) none (some 12) = (ns.take 12).map V.int := by
    rw [show (12 : Int) = ((12 : Nat) : Int) from rfl, cut_take, List.map_take]
  have sH := s1.trans s2
  have hc : upd (upd H t1 (.lst (cutV (ns.map V.int) none (some 12)))) c (.lst (cutV (ns.map V.int) none (some 12))) c = some (.lst ((ns.take 12).map V.int)) := by rw [upd_same, e12]
  have nc : H c = none := s1.free n2
  generalize upd (upd H t1 (.lst (cutV (ns.map V.int) none (some 12)))) c (.lst (cutV (ns.map V.int) none (some 12))) = H2 at sH hc ⊢
  -- the loop
  refine ⟨.ref a, rfl, _, rfl, _, rfl, a, ns.map V.int, rfl, sH.seq hS, fun t2 n3 => ?_⟩
  have e63 : cutV (ns.map V.int) (some 12) (some 63) = (ns.drop 12).map V.int := by
    rw [show (12 : Int) = ((12 : Nat) : Int) from rfl, show (63 : Int) = ((63 : Nat) : Int) from rfl, cut_drop _ _ _ (by decide), List.take_of_length_le (by rw [List.length_map]; exact hl), List.map_drop]
  rw [e63]
  have s3 := same_upd (o := .lst ((ns.drop 12).map V.int)) n3
  refine ⟨t2, (ns.drop 12).map V.int, rfl, SqL.of upd_same, for_it (walk_enum (K := K) (a := t2) (xs := (ns.drop 12).map V.int)) (fun i σ H3 => ∃ y2 y3 cs, σ = [some (.ref a), some (.ref c), y2, y3] ∧ But c H2 H3 ∧ H3 t2 = some (.lst ((ns.drop 12).map V.int)) ∧ H3 c = some (.lst (cs.map V.int)) ∧ (cs : List Int).length = (ns.take 12).length) ?_ ?_ ?_ ?_⟩
  · exact ⟨none, none, ns.take 12, rfl, But.of s3, upd_same, s3 _ _ hc, rfl⟩
  · rintro i σ H3 _ ⟨y2, y3, cs, _, _, h2, _⟩
    exact SqL.of h2
  · rintro i x σ H3 H4 hi ⟨y2, y3, cs, rfl, bt, h2, h3, hlc⟩ ⟨t, x1, x2, rfl, nt, rfl, z1, z2⟩
    cases z1
    have z2 : ((ns.drop 12).map V.int)[i]? = some x2 := z2
    have hx : ∃ m : Int, x2 = .int m := by
      rw [List.getElem?_map] at z2
      cases z3 : (ns.drop 12)[i]? with
      | none => rw [z3] at z2; cases z2
      | some m => rw [z3] at z2; exact ⟨m, (Option.some.inj z2).symm⟩
    obtain ⟨m, rfl⟩ := hx
    have hlen : cs.length = 12 := by
      rw [hlc, List.length_take]
      rw [List.length_map, List.length_drop] at hi
      omega
    have k0 : (i : Int) % 12 = ((i % 12 : Nat) : Int) := by omega
    have k1 : i % 12 < cs.length := by omega
    have ntc : c ≠ t := ne_of_none h3 nt
    have h3t : upd H3 t (.tup [V.int (i : Nat), .int m]) c = some (.lst (cs.map V.int)) := by rw [upd_ne ntc]; exact h3
    have g1 : (cs.map V.int)[i % 12]? = some (.int cs[i % 12]) := by rw [List.getElem?_map, List.getElem?_eq_getElem k1]; rfl
    refine ⟨t, _, rfl, SqT.of upd_same, rfl, _, _, rfl, _, _, rfl, rfl, ?_⟩
    refine ⟨_, rfl, _, rfl, _, _, rfl, rfl, (by show (0 : Int) < _; decide), c, _, _, _, rfl, rfl, SqL.of h3t, atI_of _ k0 g1, _, rfl, _, _, rfl, rfl, _, rfl, _, rfl, _, _, rfl, rfl, (by show (0 : Int) < _; decide), c, _, _, _, rfl, rfl, h3t, ixN_of _ k0 (by rw [List.length_map]; exact k1), ?_⟩
    have nct2 : t2 ≠ c := (ne_of_none hc n3).symm
    refine ⟨some (.int (i : Nat)), some (.int m), cs.set (i % 12) (cs[i % 12] + m), rfl, bt.trans ((But.new nt).trans But.upd), ?_, ?_, ?_⟩
    · rw [upd_ne nct2, upd_ne (ne_of_none h2 nt)]; exact h2
    · rw [upd_same, List.map_set]
    · rw [List.length_set]; exact hlc
  · rintro σ H3 ⟨y2, y3, cs, rfl, bt, h2, h3, hlc⟩
    refine ⟨_, rfl, by show 3 ≤ sizeLine; decide, fun p np => ?_⟩
    have ncp : c ≠ p := ne_of_none h3 np
    have npH : H p = none := (show Same H H2 from sH).free ((bt.free (Ne.symm ncp) np))
    refine q p c _ (fun b o e => ?_) npH nc ⟨⟨0, 0, upd_same, by decide, by decide, by decide⟩, ⟨cs, by rw [upd_ne ncp]; exact h3⟩, ncp⟩
    rw [upd_ne (ne_of_none e npH)]
    exact bt _ _ (ne_of_none e nc) (sH _ _ e)
theorem ok__law_take (T : Tx K mg) (O__law_spread : Ok P w K mg base 1 "_law_spread" ["_law_cell", "_law_at"] spSpread) : Ok P w K mg base 2 "_law_take" ["_law_pen", "_law_many"] spTake := by
  refine Ok.mk T.d__law_take sc__law_take (fun vs H Q E h => ?_) (fun f cdv A outer s H vs Q E hr h => ?_)
  · obtain ⟨p, c, n, m, rfl, _⟩ := h
    rfl
  obtain ⟨p, c, n, m, rfl, pe, hn, hm, hw, q⟩ := h
  obtain ⟨⟨a, r, ep, a0, a1, r0⟩, ⟨ns, ec⟩, ncp⟩ := pe
  refine ⟨_, (pss_cons (ps_if (pt_cmpR op_lt (pe_ix (ixL K rfl) (pv 0) (pe_int) (fun _ _ => rfl)) (pv 1) (nomark _))
 (pss_cons (ps_set (i := 2) sc__law_take.nd rfl (Or.inl rfl) (pe_ix (ixL K rfl) (pv 0) (pe_int) (fun _ _ => rfl)))
 (pss_cons (ps_set (i := 3) sc__law_take.nd rfl (Or.inl rfl) (pe_int))
 (pss_cons (ps_if (pt_cmpR op_lt (pv 2) (pe_callB (lenQ K rfl) (by rfl) T.z_len PySem.boot_len (pa_cons (pe_ix (ixL K rfl) (pv 0) (pe_int) (fun _ _ => rfl)) (pa_nil))) (nomark _))
 (pss_one (ps_set (i := 3) sc__law_take.nd rfl (Or.inl rfl) (pe_ix (ixL K rfl) (pe_ix (ixL K rfl) (pv 0) (pe_int) (fun _ _ => rfl)) (pv 2) (fun _ _ => rfl))))
 (pss_one (ps_if (pt_cmpR op_gt (pe_callB (lenQ K rfl) (by rfl) T.z_len PySem.boot_len (pa_cons (pe_ix (ixL K rfl) (pv 0) (pe_int) (fun _ _ => rfl)) (pa_nil))) (pe_int) (nomark _))
 (pss_one (ps_set (i := 3) sc__law_take.nd rfl (Or.inl rfl) (pe_op op_mod (pe_ix (ixL K rfl) (pe_ix (ixL K rfl) (pv 0) (pe_int) (fun _ _ => rfl)) (pe_op op_mod (pe_op op_add (pe_op op_mul (pv 2) (pe_int)) (pe_int)) (pe_callB (lenQ K rfl) (by rfl) T.z_len PySem.boot_len (pa_cons (pe_ix (ixL K rfl) (pv 0) (pe_int) (fun _ _ => rfl)) (pa_nil)))) (fun _ _ => rfl)) (pe_op op_add (pe_op op_pow (pe_int) (pe_int)) (pv 2)))))
 (pss_nil))))
 (pss_cons (ps_asg (pe_op op_add (pv 2) (pe_int)) (pg_sub (pv 0) (pe_int) set_list))
 (pss_one (ps_asg (pe_fn O__law_spread (hr.mono (by omega)) (by rfl) (pa_cons (pv 3) (pa_cons (pv 2) (pa_nil)))) (pg_sub (pv 0) (pe_int) set_list)))))))
 (pss_nil))
 (pss_cons (ps_set (i := 4) sc__law_take.nd rfl (Or.inl rfl) (pe_op op_mod (pe_ix (ixL K rfl) (pv 0) (pe_int) (fun _ _ => rfl)) (pv 1)))
 (pss_cons (ps_asg (pe_op op_fdivW (pe_ix (ixL K rfl) (pv 0) (pe_int) (fun _ _ => rfl)) (pv 1)) (pg_sub (pv 0) (pe_int) set_list))
 (pss_one (ps_ret (pv 4)))))), ?_⟩
  have fin : ∀ (σ2 σ3 : Option V) (H1 : Hp) (a' r' : Int), But p H H1 → H1 p = some (.lst [.ref c, .int a', .int r']) → 0 ≤ a' → a' ≤ ((n + 1 : Nat) : Int) → 0 ≤ r' →
      (tSeq (tAsg (tOp (rI (fun _ j => 0 < j) fun i j => .int (i % j)) (tOp (rIxL K) (tVar 0) (tC (.int 2))) (tVar 1)) (gName 4)) (tSeq (tAsg (tOp (rI CDivW fun i j => .int (i / j)) (tOp (rIxL K) (tVar 0) (tC (.int 2))) (tVar 1)) (gSub (tVar 0) (tC (.int 2)) rSetL)) (tRet (tVar 4))) { nx := fun _ H' => Q .non H', rt := Q } [some (.ref p), some (.int m), σ2, σ3, none] H1) := by
    intro σ2 σ3 H1 a' r' bt e1 z0 z1 z2
    refine ⟨_, rfl, p, _, _, _, rfl, rfl, SqL.of e1, atI_of 2 rfl rfl, _, rfl, _, _, rfl, rfl, hm, ?_⟩
    refine ⟨_, rfl, p, _, _, _, rfl, rfl, SqL.of e1, atI_of 2 rfl rfl, _, rfl, _, _, rfl, rfl, wide_div hm hw (by decide) (by decide), _, rfl, p, _, _, _, rfl, rfl, e1, ixN_of 2 rfl (by show 2 < 3; decide), ?_⟩
    refine ⟨_, rfl, q _ _ (Int.emod_nonneg _ (by omega)) (Int.emod_lt_of_pos _ hm) (bt.trans But.upd) ⟨⟨a', r' / m, upd_same, z0, z1, Int.ediv_nonneg z2 (by omega)⟩, ⟨ns, ?_⟩, ncp⟩⟩
    rw [upd_ne ncp]
    exact bt _ _ ncp ec
  refine ⟨_, rfl, p, _, _, _, rfl, rfl, SqL.of ep, atI_of 2 rfl rfl, _, rfl, _, _, rfl, rfl, _, rfl, ite2 (fun e => ?_) (fun e => ?_)⟩
  · refine ⟨_, rfl, p, _, _, _, rfl, rfl, SqL.of ep, atI_of 1 rfl rfl, ?_⟩
    have fin2 : ∀ (cell : Int), (tSeq (tAsg (tOp (rI0 fun i j => .int (i + j)) (tVar 2) (tC (.int 1))) (gSub (tVar 0) (tC (.int 1)) rSetL)) (tAsg (tCall spSpread [] E0 (tCons (tVar 3) (tCons (tVar 2) tNil))) (gSub (tVar 0) (tC (.int 2)) rSetL)) { nx := fun σ1 H1 => (tSeq (tAsg (tOp (rI (fun _ j => 0 < j) fun i j => .int (i % j)) (tOp (rIxL K) (tVar 0) (tC (.int 2))) (tVar 1)) (gName 4)) (tSeq (tAsg (tOp (rI CDivW fun i j => .int (i / j)) (tOp (rIxL K) (tVar 0) (tC (.int 2))) (tVar 1)) (gSub (tVar 0) (tC (.int 2)) rSetL)) (tRet (tVar 4))) { nx := fun _ H' => Q .non H', rt := Q } σ1 H1), rt := Q } [some (.ref p), some (.int m), some (.int a), some (.int cell), none] H) := by
      intro cell
      refine ⟨_, rfl, _, _, rfl, rfl, _, rfl, p, _, _, _, rfl, rfl, ep, ixN_of 1 rfl (by show 1 < 3; decide), ?_⟩
      refine ⟨_, rfl, _, rfl, cell, a, rfl, a0, by omega, fun r' H2 hr0 sm => ?_⟩
      refine ⟨_, rfl, p, _, _, _, rfl, rfl, sm _ _ upd_same, ixN_of 2 rfl (by show 2 < 3; decide), ?_⟩
      exact fin _ _ _ (a + 1) r' (But.upd.trans ((But.of sm).trans But.upd)) upd_same (by omega) (by omega) hr0
    refine ⟨_, rfl, _, rfl, p, _, _, _, rfl, rfl, SqL.of ep, atI_of 0 rfl rfl, c, _, rfl, .inl (SqL.of ec), _, _, rfl, rfl, _, rfl, ite2 (fun e1 => ?_) (fun e1 => ?_)⟩
    · have e1 := of_decide_eq_true e1
      rw [List.length_map] at e1
      have k1 : a.toNat < ns.length := by omega
      have g1 : (ns.map V.int)[a.toNat]? = some (.int ns[a.toNat]) := by rw [List.getElem?_map, List.getElem?_eq_getElem k1]; rfl
      refine ⟨_, rfl, p, _, _, _, rfl, rfl, SqL.of ep, atI_of 0 rfl rfl, _, rfl, c, _, _, _, rfl, rfl, SqL.of ec, atI_of a.toNat (by omega) g1, ?_⟩
      exact fin2 _
    · refine ⟨_, rfl, p, _, _, _, rfl, rfl, SqL.of ep, atI_of 0 rfl rfl, c, _, rfl, .inl (SqL.of ec), _, _, rfl, rfl, _, rfl, ite2 (fun e2 => ?_) (fun e2 => ?_)⟩
      · have e2 := of_decide_eq_true e2
        rw [List.length_map] at e2
        have k0 : 0 ≤ (a * 5 + 3) % (ns.length : Int) := Int.emod_nonneg _ (by omega)
        have k1 : (a * 5 + 3) % (ns.length : Int) < ns.length := Int.emod_lt_of_pos _ e2
        have k2 : ((a * 5 + 3) % (ns.length : Int)).toNat < ns.length := by omega
        have g1 : (ns.map V.int)[((a * 5 + 3) % (ns.length : Int)).toNat]? = some (.int ns[((a * 5 + 3) % (ns.length : Int)).toNat]) := by rw [List.getElem?_map, List.getElem?_eq_getElem k2]; rfl
        refine ⟨_, rfl, p, _, _, _, rfl, rfl, SqL.of ep, atI_of 0 rfl rfl, _, rfl, _, _, rfl, rfl, .inr ⟨by decide, by decide⟩, _, _, rfl, rfl, _, rfl, p, _, _, _, rfl, rfl, SqL.of ep, atI_of 0 rfl rfl, c, _, rfl, .inl (SqL.of ec), _, _, rfl, rfl, by rw [List.length_map]; exact e2, c, _, _, _, rfl, rfl, SqL.of ec, atI_of _ (by rw [List.length_map]; omega) g1, _, _, rfl, rfl, ⟨by decide, by decide, by decide⟩, _, rfl, _, _, rfl, rfl, _, _, rfl, rfl, ?_, ?_⟩
        · show (0 : Int) < 10 ^ (17 : Int).toNat + a
          have : (0 : Int) < 10 ^ (17 : Int).toNat := by decide
          omega
        · exact fin2 _
      · exact fin2 _
  · exact fin none none H a r (But.refl p H) ep a0 (by omega) r0
end

/-! ### a Scribe: signs, spot, depth -/
abbrev Sg (l : List Nat) : Str := ⟨l.toArray⟩
open TL (tl)
def scF (z : Str) (i d : Nat) : List (Str × V) := [("signs", .str z), ("spot", .int i), ("depth", .int d)]
theorem e_sg_sp : (("spot" : Str) == "signs") = false := by decide +kernel
theorem e_dp_sg : (("depth" : Str) == "signs") = false := by decide +kernel
theorem e_dp_sp : (("depth" : Str) == "spot") = false := by decide +kernel
theorem n_sg_sp : ¬ (("signs" : Str) = "spot") := by decide +kernel
theorem n_sg_dp : ¬ (("signs" : Str) = "depth") := by decide +kernel
theorem n_sp_dp : ¬ (("spot" : Str) = "depth") := by decide +kernel
theorem scF_sg (z : Str) (i d : Nat) : (scF z i d).lookup ("signs" : Str) = some (.str z) := by simp [scF, List.lookup]
theorem scF_sp (z : Str) (i d : Nat) : (scF z i d).lookup ("spot" : Str) = some (.int i) := by simp [scF, List.lookup, e_sg_sp]
theorem scF_dp (z : Str) (i d : Nat) : (scF z i d).lookup ("depth" : Str) = some (.int d) := by simp [scF, List.lookup, e_dp_sg, e_dp_sp]
theorem scF_no (z : Str) (i d : Nat) {m : Str} (h1 : (m == "signs") = false) (h2 : (m == "spot") = false) (h3 : (m == "depth") = false) : (scF z i d).lookup m = none := by simp [scF, List.lookup, h1, h2, h3]
theorem scF_psp (z : Str) (i d : Nat) (j : Int) (k : Nat) (e : j = (k : Int)) : putF "spot" (.int j) (scF z i d) = scF z k d := by
  subst e
  show (if ("signs" : Str) = "spot" then _ else (("signs" : Str), V.str z) :: (if ("spot" : Str) = "spot" then (("spot" : Str), V.int k) :: [("depth", V.int d)] else _)) = _
  rw [if_neg n_sg_sp, if_pos rfl]
  rfl
theorem scF_pdp (z : Str) (i d : Nat) (j : Int) (k : Nat) (e : j = (k : Int)) : putF "depth" (.int j) (scF z i d) = scF z i k := by
  subst e
  show (if ("signs" : Str) = "depth" then _ else (("signs" : Str), V.str z) :: (if ("spot" : Str) = "depth" then _ else (("spot" : Str), V.int i) :: (if ("depth" : Str) = "depth" then (("depth" : Str), V.int k) :: [] else _))) = _
  rw [if_neg n_sg_dp, if_neg n_sp_dp, if_pos rfl]
  rfl
theorem scF_len (z : Str) (i d : Nat) : (scF z i d).length < 1000 := by show 3 < 1000; decide
def Scr (C : Addr) (H : Hp) (p : Addr) (z : Str) (i d : Nat) : Prop := ∃ dx, H p = some (.ins C dx (scF z i d))
theorem Scr.but {C : Addr} {H H' : Hp} {p q : Addr} {z : Str} {i d : Nat} (s : Scr C H p z i d) (b : But q H H') (n : p ≠ q) : Scr C H' p z i d := by
  obtain ⟨dx, e⟩ := s
  exact ⟨dx, b _ _ n e⟩
theorem Scr.same {C : Addr} {H H' : Hp} {p : Addr} {z : Str} {i d : Nat} (s : Scr C H p z i d) (b : Same H H') : Scr C H' p z i d := by
  obtain ⟨dx, e⟩ := s
  exact ⟨dx, b _ _ e⟩
theorem cut_ahead (z : Str) (i : Nat) : cutS z (some (i : Int)) (some ((i : Int) + 1)) = Sg (((tl z).drop i).take 1) := by
  unfold cutS
  have e : ((i : Int) + 1) = ((i + 1 : Nat) : Int) := by omega
  rw [e, HT.sIx_nat, HT.sIx_nat, TL.len_tl]
  refine congrArg Sg ?_
  show List.take _ (List.drop _ (tl z)) = _
  by_cases h : i < (tl z).length
  · rw [Nat.min_eq_left (by omega), Nat.min_eq_left (by omega), show i + 1 - i = 1 by omega]
  · rw [List.drop_of_length_le (show (tl z).length ≤ min i (tl z).length by omega), List.drop_of_length_le (show (tl z).length ≤ i by omega)]
    simp
theorem cut_run (z : Str) (i j : Nat) (h : j ≤ (tl z).length) : cutS z (some (i : Int)) (some (j : Int)) = Sg (((tl z).drop i).take (j - i)) := by
  unfold cutS
  rw [HT.sIx_nat, HT.sIx_nat, TL.len_tl]
  refine congrArg Sg ?_
  show List.take _ (List.drop _ (tl z)) = _
  by_cases h1 : i ≤ (tl z).length
  · rw [Nat.min_eq_left (by omega), Nat.min_eq_left (by omega)]
  · rw [List.drop_of_length_le (show (tl z).length ≤ min i (tl z).length by omega), List.drop_of_length_le (show (tl z).length ≤ i by omega)]
    simp
def spScI (C : Addr) : Sp := fun vs H Q _ => ∃ (p dx : Addr) (z : Str), vs = [.ref p, .str z] ∧ H p = some (.ins C dx []) ∧ ∀ H', But p H H' → Scr C H' p z 0 0 → Q .non H'
def spAhead (C : Addr) : Sp := fun vs H Q _ => ∃ (p : Addr) (z : Str) (i d : Nat), vs = [.ref p] ∧ Scr C H p z i d ∧ z.length ≤ sizeLine ∧ Q (.str (Sg (((tl z).drop i).take 1))) H
def spNeed (C : Addr) : Sp := fun vs H Q _ => ∃ (p : Addr) (z y : Str) (i d c : Nat) (r : List Nat), vs = [.ref p, .str y] ∧ Scr C H p z i d ∧ z.length ≤ sizeLine ∧ (tl z).drop i = c :: r ∧ c ∈ tl y ∧ ∀ H', But p H H' → Scr C H' p z (i + 1) d → Q (.str (Sg [c])) H'
def spRun (C : Addr) : Sp := fun vs H Q _ => ∃ (p : Addr) (z y : Str) (i d m : Nat) (u r : List Nat), vs = [.ref p, .str y, .int m] ∧ Scr C H p z i d ∧ z.length ≤ sizeLine ∧ i ≤ (tl z).length ∧ (tl z).drop i = u ++ r ∧ (∀ c ∈ u, c ∈ tl y) ∧ u.length ≤ m ∧
  (u.length = m ∨ ∀ c, r.head? = some c → c ∉ tl y) ∧ ∀ H', But p H H' → Scr C H' p z (i + u.length) d → Q (.str (Sg u)) H'
section
variable {P : Program} {w : World} {K : PySem.W.Frag} {mg : Str → Option Value} {base : Heap} {C : Addr}
theorem tl_e : tl (Str.ofString "") = [] := by decide +kernel
theorem tl_lp : tl (Str.ofString "(") = [40] := by decide +kernel
theorem tl_rp : tl (Str.ofString ")") = [41] := by decide +kernel
theorem tl_sp : tl (Str.ofString " ") = [32] := by decide +kernel
theorem tl_0 : tl (Str.ofString "0") = [48] := by decide +kernel
theorem tl_m : tl (Str.ofString "-") = [45] := by decide +kernel
theorem sg_no {c : Nat} {r : List Nat} {x : Str} (h : tl x ≠ c :: r) : ¬ (decide (V.str (Sg (c :: r)) = V.str x) = true) := fun e => by
  have e := of_decide_eq_true e
  cases e
  exact h rfl
theorem ok_scI (B : C_Scribe K mg C) : OkM P w K mg base C 1 "__init__" ["self", "signs"] (spScI C) := by
  refine OkM.mk B.k.init sc_Scribe___init__ (fun vs H Q E h => ?_) (fun f cdv A outer s H vs Q E hr h => ?_)
  · obtain ⟨p, dx, z, rfl, _⟩ := h; rfl
  · obtain ⟨p, dx, z, rfl, hp, k⟩ := h
    refine ⟨_, pss_cons (ps_fld (pv 0) (pv 1) rfl) (pss_cons (ps_fld (pv 0) pe_int rfl) (pss_one (ps_fld (pv 0) pe_int rfl))), ?_⟩
    refine ⟨_, rfl, _, rfl, p, C, dx, _, rfl, hp, B.k.cl, B.n_signs, (by show 0 < 1000; decide), _, rfl, p, C, dx, _, rfl, upd_same, B.k.cl, B.n_spot, (by show 1 < 1000; decide), _, rfl, p, C, dx, _, rfl, upd_same, B.k.cl, B.n_depth, ?_, ?_⟩
    · rw [show putF "spot" (V.int 0) (putF "signs" (V.str z) []) = [(("signs" : Str), V.str z), ("spot", V.int 0)] from by
        show (if ("signs" : Str) = "spot" then _ else (("signs" : Str), V.str z) :: [(("spot" : Str), V.int 0)]) = _
        rw [if_neg n_sg_sp]]
      show 2 < 1000; decide
    · refine k _ (But.upd.trans (But.upd.trans But.upd)) ⟨dx, ?_⟩
      rw [upd_same]
      congr 2
theorem ok_ahead (B : C_Scribe K mg C) : OkM P w K mg base C 1 "sign_ahead" ["self"] (spAhead C) := by
  refine OkM.mk B.m_sign_ahead sc_Scribe_sign_ahead (fun vs H Q E h => ?_) (fun f cdv A outer s H vs Q E hr h => ?_)
  · obtain ⟨p, z, i, d, rfl, _⟩ := h; rfl
  · obtain ⟨p, z, i, d, rfl, ⟨dx, hp⟩, hz, k⟩ := h
    refine ⟨_, pss_one (ps_ret (pe_slice sl_str (pe_fld (pv 0) rfl) (po_some (pe_fld (pv 0) rfl)) (po_some (pe_op op_add (pe_fld (pv 0) rfl) pe_int)))), ?_⟩
    refine ⟨_, rfl, p, C, dx, _, _, rfl, hp, B.k.cl, B.n_signs, scF_sg _ _ _, ?_⟩
    refine ⟨_, rfl, p, C, dx, _, _, rfl, hp, B.k.cl, B.n_spot, scF_sp _ _ _, _, rfl, ?_⟩
    refine ⟨_, rfl, p, C, dx, _, _, rfl, hp, B.k.cl, B.n_spot, scF_sp _ _ _, _, _, rfl, rfl, _, rfl, ?_⟩
    refine ⟨z, rfl, hz, ?_⟩
    rw [cut_ahead]
    exact k
theorem ok_need (B : C_Scribe K mg C) : OkM P w K mg base C 2 "need_sign" ["self", "some"] (spNeed C) := by
  have O1 : OkM P w K mg base C 1 "sign_ahead" ["self"] (spAhead C) := ok_ahead B
  refine OkM.mk B.m_need_sign sc_Scribe_need_sign (fun vs H Q E h => ?_) (fun f cdv A outer s H vs Q E hr h => ?_)
  · obtain ⟨p, z, y, i, d, c, r, rfl, _⟩ := h; rfl
  · obtain ⟨p, z, y, i, d, c, r, rfl, ⟨dx, hp⟩, hz, hd, hc, k⟩ := h
    refine ⟨_, pss_cons (ps_set (i := 2) sc_Scribe_need_sign.nd rfl (Or.inl rfl) (pe_mth0 (pv 0) B.k.cl O1 (hr.mono (by omega))))
      (pss_cons (ps_if (PW.pt (pw_or (pt_cmpR (eqG K rfl hr.units) (pv 2) pe_str (nomark _)) (pw_or1 (pt_cmpR op_notin_str (pv 2) (pv 1) (by rfl))))) (pss_one ps_never) pss_nil)
      (pss_cons (ps_fldaug (pv 0) pe_int in_add) (pss_one (ps_ret (pv 2))))), ?_⟩
    refine ⟨_, rfl, p, dx, _, rfl, hp, scF_no _ _ _ (by decide +kernel) (by decide +kernel) (by decide +kernel), p, z, i, d, rfl, ⟨dx, hp⟩, hz, ?_⟩
    rw [hd]
    refine ⟨_, rfl, .inl ⟨rfl, _, rfl, ?_⟩⟩
    refine ifn (sg_no (by rw [tl_e]; exact fun z => nomatch z)) ⟨_, rfl, _, rfl, _, _, rfl, rfl, _, rfl, ?_⟩
    refine ifn (by rw [show (Sg (List.take 1 (c :: r)) : Str) = ⟨#[c]⟩ from rfl, StrLaws.found_one]; simpa using hc) ?_
    refine ⟨_, rfl, p, C, dx, _, _, rfl, hp, B.k.cl, B.n_spot, scF_sp _ _ _, _, _, rfl, rfl, dx, _, hp, scF_len _ _ _, _, rfl, ?_⟩
    exact k _ But.upd ⟨dx, by rw [upd_same, scF_psp z i d _ (i + 1) (by omega)]⟩

theorem drop_get {l u r : List Nat} {i j c : Nat} (h : l.drop i = u ++ r) (e : u[j]? = some c) : l[i + j]? = some c := by
  rw [← List.getElem?_drop, h, List.getElem?_append_left (List.getElem?_eq_some_iff.mp e).1]
  exact e
theorem ok_run (T : Tx K mg) (B : C_Scribe K mg C) : OkM P w K mg base C 1 "run_of" ["self", "some", "most"] (spRun C) := by
  refine OkM.mk B.m_run_of sc_Scribe_run_of (fun vs H Q E h => ?_) (fun f cdv A outer s H vs Q E hr h => ?_)
  · obtain ⟨p, z, y, i, d, m, u, r, rfl, _⟩ := h; rfl
  · obtain ⟨p, z, y, i, d, m, u, r, rfl, ⟨dx, hp⟩, hz, hi, hd, hu, hm, he, k⟩ := h
    have hl : (tl z).length = i + u.length + r.length := by
      have := congrArg List.length hd
      rw [List.length_drop, List.length_append] at this
      omega
    refine ⟨_, pss_cons (ps_set (i := 3) sc_Scribe_run_of.nd rfl (Or.inl rfl) (pe_fld (pv 0) rfl))
      (C8.pss_cut (ps_while PassesOwn.never (PW.pt (pw_and (pt_cmpR op_lt (pv 3) (pe_callB call_len_str (by rfl) T.z_len boot_len (pa_cons (pe_fld (pv 0) rfl) pa_nil)) (nomark _))
        (pw_and (pt_cmpR op_lt (pe_op op_sub (pv 3) (pe_fld (pv 0) rfl)) (pv 2) (nomark _)) (pw_and1 (pt_cmpR op_in_str (pe_ix ix_str (pe_fld (pv 0) rfl) (pv 3) (fun _ _ => rfl)) (pv 1) (by rfl))))))
        (pss_one (ps_aug (i := 3) sc_Scribe_run_of.nd rfl (Or.inl rfl) pe_int iop_add)))
      (pss_cons (ps_set (i := 4) sc_Scribe_run_of.nd rfl (Or.inl rfl) (pe_slice sl_str (pe_fld (pv 0) rfl) (po_some (pe_fld (pv 0) rfl)) (po_some (pv 3))))
      (pss_cons (ps_fld (pv 0) (pv 3) rfl)
      (pss_one (ps_ret (pv 4)))))), ?_⟩
    refine ⟨_, rfl, p, C, dx, _, _, rfl, hp, B.k.cl, B.n_spot, scF_sp _ _ _, ?_⟩
    refine ⟨fun σ H' => σ = [some (.ref p), some (.str y), some (.int m), some (.int ((i + u.length : Nat) : Int)), none] ∧ H' = H, ?_, ?_⟩
    · refine ⟨fun n σ H' => ∃ j, n = u.length - j ∧ j ≤ u.length ∧ σ = [some (.ref p), some (.str y), some (.int m), some (.int ((i + j : Nat) : Int)), none] ∧ H' = H, ⟨_, 0, rfl, Nat.zero_le _, rfl, rfl⟩, ?_⟩
      rintro n σ H' ⟨j, rfl, hj, rfl, rfl⟩
      refine ⟨_, rfl, _, rfl, p, C, dx, _, _, rfl, hp, B.k.cl, B.n_signs, scF_sg _ _ _, z, rfl, hz, _, _, rfl, rfl, _, rfl, ?_⟩
      by_cases c1 : i + j < (tl z).length
      · refine ifp (decide_eq_true (by rw [TL.len_tl]; omega)) ?_
        refine ⟨_, rfl, _, rfl, p, C, dx, _, _, rfl, hp, B.k.cl, B.n_spot, scF_sp _ _ _, _, _, rfl, rfl, _, rfl, _, _, rfl, rfl, _, rfl, ?_⟩
        by_cases c2 : j < m
        · refine ifp (decide_eq_true (by omega)) ?_
          obtain ⟨c, hc⟩ : ∃ c, (tl z)[i + j]? = some c := ⟨_, List.getElem?_eq_getElem c1⟩
          refine ⟨_, rfl, p, C, dx, _, _, rfl, hp, B.k.cl, B.n_signs, scF_sg _ _ _, _, rfl, z, _, c, rfl, rfl, hz, atI_nat hc, _, rfl, _, _, rfl, rfl, _, rfl, ?_⟩
          rw [StrLaws.found_one]
          by_cases c3 : j < u.length
          · have hcu : u[j]? = some c := by
              rw [← hc]
              exact (drop_get hd (List.getElem?_eq_getElem c3)).symm ▸ (List.getElem?_eq_getElem c3)
            refine ifp (decide_eq_true (hu c (List.mem_of_getElem? hcu))) ⟨fun σ' H'' => ∃ m', m' < u.length - j ∧ ∃ j', m' = u.length - j' ∧ j' ≤ u.length ∧ σ' = [some (.ref p), some (.str y), some (.int m), some (.int ((i + j' : Nat) : Int)), none] ∧ H'' = H', fun _ _ h => h, ?_⟩
            refine ⟨_, rfl, _, _, rfl, rfl, _, by omega, j + 1, rfl, by omega, ?_, rfl⟩
            show [some (V.ref p), some (.str y), some (.int m), some (.int (((i + j : Nat) : Int) + 1)), none] = _
            rw [show ((i + j : Nat) : Int) + 1 = ((i + (j + 1) : Nat) : Int) by omega]
          · have ej : j = u.length := by omega
            subst ej
            refine ifn (fun e => ?_) ⟨rfl, rfl⟩
            rcases he with he | he
            · omega
            · refine he c ?_ (of_decide_eq_true e)
              rw [← hc, List.head?_eq_getElem?, ← List.getElem?_drop, hd, List.getElem?_append_right (Nat.le_refl _), Nat.sub_self]
        · have ej : j = u.length := by omega
          subst ej
          exact ifn (by simp; omega) ⟨rfl, rfl⟩
      · have ej : j = u.length := by omega
        subst ej
        exact ifn (fun e => by have := of_decide_eq_true e; rw [TL.len_tl] at this; omega) ⟨rfl, rfl⟩
    · rintro σ H' ⟨rfl, rfl⟩
      refine ⟨_, rfl, p, C, dx, _, _, rfl, hp, B.k.cl, B.n_signs, scF_sg _ _ _, _, rfl, p, C, dx, _, _, rfl, hp, B.k.cl, B.n_spot, scF_sp _ _ _, _, rfl, _, rfl, _, rfl, z, rfl, hz, ?_⟩
      refine ⟨_, rfl, _, rfl, p, C, dx, _, rfl, hp, B.k.cl, B.n_spot, scF_len _ _ _, _, rfl, ?_⟩
      have e1 : cutS z (some ((i : Nat) : Int)) (some ((i + u.length : Nat) : Int)) = Sg u := by
        rw [cut_run z i _ (by omega), hd, Nat.add_sub_cancel_left, List.take_left]
      rw [e1]
      exact k _ But.upd ⟨dx, by rw [upd_same, scF_psp z i d _ (i + u.length) rfl]⟩
end

/-! ### written things -/
open TL (numL joinL)
def intL (n : Int) : List Nat := if n < 0 then 45 :: numL n.natAbs else numL n.natAbs
mutual
def sh : D → List Nat
  | .str w => tl w
  | .int i => intL i
  | .tuple ds => 40 :: (joinL [32] (shL ds) ++ [41])
  | _ => []
def shL : List D → List (List Nat)
  | [] => []
  | d :: ds => sh d :: shL ds
end
def word (w : Str) : Prop := 1 ≤ w.length ∧ w.length ≤ 8 ∧ ∀ c ∈ tl w, 97 ≤ c ∧ c ≤ 122
def vd : Nat → D → Prop
  | _, .str w => word w
  | _, .int i => i.natAbs < 10 ^ 30
  | h + 1, .tuple ds => ∀ d ∈ ds, vd h d
  | _, _ => False
theorem vd_mono : ∀ {h k : Nat} {d : D}, vd h d → h ≤ k → vd k d
  | 0, 0, d, v, _ => v
  | 0, k + 1, d, v, _ => by cases d <;> first | exact v | exact v.elim
  | h + 1, 0, d, v, l => absurd l (by omega)
  | h + 1, k + 1, d, v, l => by
    cases d <;> first | exact v | exact v.elim | skip
    exact fun e m => vd_mono (h := h) (k := k) (v e m) (by omega)
theorem str_ok {w : Str} (h : word w) : PyData.strOk w = true := by
  unfold PyData.strOk
  rw [Array.all_eq_true']
  intro c hc
  have := h.2.2 c (by simpa using hc)
  simp
  omega
mutual
theorem vd_lay : ∀ (d : D) {h : Nat}, vd h d → PyData.canLay0 d = true ∧ PyData.depth d ≤ h
  | .str w, h, v => by
    have v' : word w := by cases h <;> exact v
    exact ⟨by simpa [PyData.canLay0] using str_ok v', by simp [PyData.depth]⟩
  | .int i, h, v => ⟨by simp [PyData.canLay0], by simp [PyData.depth]⟩
  | .tuple ds, 0, v => v.elim
  | .tuple ds, h + 1, v => by
    obtain ⟨a, b⟩ := vd_layL ds (h := h) v
    exact ⟨by simpa [PyData.canLay0] using a, by simpa [PyData.depth] using b⟩
  | .none, h, v => by cases h <;> exact v.elim
  | .bool _, h, v => by cases h <;> exact v.elim
  | .list _, h, v => by cases h <;> exact v.elim
  | .dict _, h, v => by cases h <;> exact v.elim
theorem vd_layL : ∀ (ds : List D) {h : Nat}, (∀ d ∈ ds, vd h d) → PyData.canLayAll0 ds = true ∧ PyData.depthAll ds ≤ h
  | [], h, v => ⟨rfl, by simp [PyData.depthAll]⟩
  | d :: ds, h, v => by
    obtain ⟨a, b⟩ := vd_lay d (v d (List.mem_cons_self ..))
    obtain ⟨a', b'⟩ := vd_layL ds fun e m => v e (List.mem_cons_of_mem _ m)
    refine ⟨by simp [PyData.canLayAll0, a, a'], ?_⟩
    simp only [PyData.depthAll]
    omega
end
theorem vd_shL {ds : List D} {h : Nat} (v : ∀ d ∈ ds, vd h d) (l : h ≤ 60) : Sh (.list ds) := by
  obtain ⟨a, b⟩ := vd_layL ds v
  show (PyData.canLay0 _ && decide (PyData.depth _ ≤ 64)) = true
  rw [Bool.and_eq_true, decide_eq_true_eq]
  exact ⟨by simpa [PyData.canLay0] using a, by simp only [PyData.depth]; omega⟩
/-- behind the first part -/
def tailL (xs : List (List Nat)) : List Nat := xs.flatMap fun x => 32 :: x
theorem join_tail : ∀ (x : List Nat) (xs : List (List Nat)), joinL [32] (x :: xs) = x ++ tailL xs
  | x, [] => by simp [joinL, tailL]
  | x, y :: r => by
    show x ++ ([32] ++ joinL [32] (y :: r)) = _
    rw [join_tail y r]
    simp [tailL]
/-- a number's signs -/
theorem num_cons : ∀ n : Nat, 1 ≤ n → ∃ f u, numL n = f :: u ∧ 49 ≤ f ∧ f ≤ 57 := by
  intro n
  induction n using Nat.strongRecOn with
  | _ n ih =>
    intro h
    by_cases h1 : n < 10
    · exact ⟨48 + n, [], TL.numL_lt h1, by omega, by omega⟩
    · obtain ⟨f, u, e, l⟩ := ih (n / 10) (by omega) (by omega)
      rw [TL.numL_step (by omega), e]
      exact ⟨f, u ++ [48 + n % 10], rfl, l⟩
def Stop (r : List Nat) : Prop := ∀ c, r.head? = some c → c = 32 ∨ c = 41
theorem stop_cons {c : Nat} {r : List Nat} (h : c = 32 ∨ c = 41) : Stop (c :: r) := fun x e => by cases e; exact h
theorem stop_tail (xs : List (List Nat)) (r : List Nat) : Stop (tailL xs ++ 41 :: r) := by
  cases xs with
  | nil => exact stop_cons (.inr rfl)
  | cons x xs => exact stop_cons (.inl rfl)
def spNum (C : Addr) : Sp := fun vs H Q _ => ∃ (p : Addr) (z : Str) (i d : Nat) (n : Int) (r : List Nat), vs = [.ref p] ∧ Scr C H p z i d ∧ z.length ≤ sizeLine ∧ (tl z).drop i = intL n ++ r ∧ n.natAbs < 10 ^ 30 ∧ Stop r ∧
  ∀ H', But p H H' → Scr C H' p z (i + (intL n).length) d → Q (.int n) H'
/-- a part of a writing, or (t) a bracket -/
def spPart (K : PySem.W.Frag) (C : Addr) (h : Nat) (t : Bool) : Sp := fun vs H Q _ => ∃ (p : Addr) (z : Str) (i d : Nat) (x : D) (r : List Nat) (Hs : Hp), vs = [.ref p] ∧ Scr C H p z i d ∧ z.length ≤ sizeLine ∧ (tl z).drop i = sh x ++ r ∧ vd h x ∧ d + h ≤ 40 ∧
  (t = true → ∃ ds, x = .tuple ds) ∧ (t = false → Stop r) ∧ Same Hs H ∧ Hs p = none ∧
  ∀ v Hs' H', Same Hs Hs' → Same Hs' H' → But p H H' → (∀ b, Hs b = none → Hs' b ≠ none → H b = none) → Scr C H' p z (i + (sh x).length) d → Rp K Hs' v x → Q v H'
theorem lt_of_drop {l r : List Nat} {i c : Nat} (h : l.drop i = c :: r) : i < l.length := by
  have := congrArg List.length h
  rw [List.length_drop, List.length_cons] at this
  omega
theorem drop_more {l u r : List Nat} {i : Nat} (h : l.drop i = u ++ r) : l.drop (i + u.length) = r := by
  rw [← List.drop_drop, h, List.drop_left]
theorem tl_fig : tl (Str.ofString "0123456789") = [48, 49, 50, 51, 52, 53, 54, 55, 56, 57] := by decide +kernel
theorem tl_small : tl (Str.ofString "abcdefghijklmnopqrstuvwxyz") = (List.range 26).map (97 + ·) := by decide +kernel
theorem cut_fig : tl (cutS (Str.ofString "0123456789") (some 1) none) = [49, 50, 51, 52, 53, 54, 55, 56, 57] := by decide +kernel
theorem mem_fig {c : Nat} : c ∈ tl (Str.ofString "0123456789") ↔ 48 ≤ c ∧ c ≤ 57 := by
  rw [tl_fig]
  simp only [List.mem_cons, List.not_mem_nil, or_false]
  omega
theorem mem_small {c : Nat} : c ∈ tl (Str.ofString "abcdefghijklmnopqrstuvwxyz") ↔ 97 ≤ c ∧ c ≤ 122 := by
  rw [tl_small]
  simp only [List.mem_map, List.mem_range]
  constructor
  · rintro ⟨a, h, rfl⟩; omega
  · intro h; exact ⟨c - 97, by omega, by omega⟩
section
variable {P : Program} {w : World} {K : PySem.W.Frag} {mg : Str → Option Value} {base : Heap} {C : Addr}
theorem sg_yes {c : Nat} {r : List Nat} {x : Str} (h : tl x = [c]) : decide (V.str (Sg (List.take 1 (c :: r))) = V.str x) = true := decide_eq_true (congrArg V.str (TL.ext_tl h.symm))
theorem ok_num (T : Tx K mg) (B : C_Scribe K mg C) : OkM P w K mg base C 3 "whole_number" ["self"] (spNum C) := by
  have O1 : OkM P w K mg base C 1 "sign_ahead" ["self"] (spAhead C) := ok_ahead B
  have O2 : OkM P w K mg base C 2 "need_sign" ["self", "some"] (spNeed C) := ok_need B
  have O3 : OkM P w K mg base C 1 "run_of" ["self", "some", "most"] (spRun C) := ok_run T B
  refine OkM.mk B.m_whole_number sc_Scribe_whole_number (fun vs H Q E h => ?_) (fun f cdv A outer s H vs Q E hr h => ?_)
  · obtain ⟨p, z, i, d, n, r, rfl, _⟩ := h; rfl
  · obtain ⟨p, z, i, d, n, r, rfl, ⟨dx, hp⟩, hz, hd, hn, hst, k⟩ := h
    have nA : ∀ z i d, (scF z i d).lookup ("sign_ahead" : Str) = none := fun z i d => scF_no _ _ _ (by decide +kernel) (by decide +kernel) (by decide +kernel)
    have nN : ∀ z i d, (scF z i d).lookup ("need_sign" : Str) = none := fun z i d => scF_no _ _ _ (by decide +kernel) (by decide +kernel) (by decide +kernel)
    have nR : ∀ z i d, (scF z i d).lookup ("run_of" : Str) = none := fun z i d => scF_no _ _ _ (by decide +kernel) (by decide +kernel) (by decide +kernel)
    refine ⟨_, pss_cons (ps_if (pt_cmpR (eqG K rfl hr.units) (pe_mth0 (pv 0) B.k.cl O1 (hr.mono (by omega))) pe_str (nomark _)) (pss_cons (ps_fldaug (pv 0) pe_int in_add) (pss_one (ps_ret pe_int))) pss_nil)
      (pss_cons (ps_set (i := 1) sc_Scribe_whole_number.nd rfl (Or.inl rfl) (pe_cmpR (eqG K rfl hr.units) (pe_mth0 (pv 0) B.k.cl O1 (hr.mono (by omega))) pe_str (nomark _)))
      (pss_cons (ps_fldaug (pv 0) (pe_callTy call_int1 (by rfl) T.z_int boot_int (pa_cons (pv 1) pa_nil)) in_add)
      (pss_cons (ps_set (i := 2) sc_Scribe_whole_number.nd rfl (Or.inl rfl) (pe_mth (pv 0) B.k.cl O2 (hr.mono (by omega)) (pa_cons (pe_slice sl_str (pe_gv (by rfl) T.g_FIGURES) (po_some pe_int) po_none) pa_nil)))
      (pss_cons (ps_set (i := 3) sc_Scribe_whole_number.nd rfl (Or.inl rfl) (pe_callTy call_int_str (by rfl) T.z_int boot_int (pa_cons (pe_op op_add_str (pv 2) (pe_mth (pv 0) B.k.cl O3 (hr.mono (by omega)) (pa_cons (pe_gv (by rfl) T.g_FIGURES) (pa_cons (pe_op op_sub (pe_gv (by rfl) T.g_MOST_FIGURES) pe_int) pa_nil)))) pa_nil)))
      (pss_one (ps_ret (pe_ifExp (pt_val (pv 1)) (pe_un un_neg (pv 3)) (pv 3)))))))), ?_⟩
    refine ⟨_, rfl, p, dx, _, rfl, hp, nA _ _ _, p, z, i, d, rfl, ⟨dx, hp⟩, hz, ?_⟩
    rw [hd]
    by_cases n0 : n = 0
    · subst n0
      have e0 : intL 0 = [48] := by decide +kernel
      rw [e0] at k ⊢
      refine .inl ⟨rfl, _, rfl, ifp (sg_yes tl_0) ?_⟩
      refine ⟨_, rfl, p, C, dx, _, _, rfl, hp, B.k.cl, B.n_spot, scF_sp _ _ _, _, _, rfl, rfl, dx, _, hp, scF_len _ _ _, ?_⟩
      exact k _ But.upd ⟨dx, by rw [upd_same, scF_psp z i d _ (i + 1) (by omega)]; rfl⟩
    · obtain ⟨f, u, ef, f1, f2⟩ := num_cons n.natAbs (by omega)
      have hul : u.length ≤ 29 := by
        have := TL.numL_len (n := n.natAbs) (k := 30) (by decide) hn
        rw [ef, List.length_cons] at this
        omega
      have hud : ∀ c ∈ u, 48 ≤ c ∧ c ≤ 57 := fun c m => TL.numL_digits n.natAbs c (by rw [ef]; exact List.mem_cons_of_mem _ m)
      -- the rest, from the spot of the first figure on
      obtain ⟨t, g, et, eg, ez⟩ : ∃ (t : Bool) (g : Nat), intL n = (if t = true then [45] else []) ++ f :: u ∧ (g = if t = true then 1 else 0) ∧ (t = true ↔ n < 0) := by
        unfold intL
        by_cases hneg : n < 0
        · exact ⟨true, 1, by rw [if_pos hneg, ef]; rfl, rfl, by simp [hneg]⟩
        · exact ⟨false, 0, by rw [if_neg hneg, ef]; rfl, rfl, by simp [hneg]⟩
      have hh : ∃ c q, intL n ++ r = c :: q ∧ c ≠ 48 ∧ (decide (V.str (Sg (List.take 1 (c :: q))) = V.str (Str.ofString "-")) = t) := by
        rw [et]
        cases t with
        | true => exact ⟨45, _, rfl, by decide, sg_yes tl_m⟩
        | false =>
          refine ⟨f, _, rfl, by omega, Bool.eq_false_iff.mpr ?_⟩
          exact sg_no (by rw [tl_m]; intro z; injection z with z1 z2; omega)
      obtain ⟨c, q, e1, e2, e3⟩ := hh
      rw [e1]
      refine .inl ⟨rfl, _, rfl, ifn (sg_no (by rw [tl_0]; intro z; injection z with z1 z2; omega)) ?_⟩
      refine ⟨_, rfl, p, dx, _, rfl, hp, nA _ _ _, p, z, i, d, rfl, ⟨dx, hp⟩, hz, ?_⟩
      rw [hd, e1]
      refine .inl ⟨rfl, ?_⟩
      rw [e3]
      refine ⟨_, rfl, p, C, dx, _, _, rfl, hp, B.k.cl, B.n_spot, scF_sp _ _ _, _, rfl, .inr ⟨t, rfl, _, _, rfl, rfl, dx, _, hp, scF_len _ _ _, ?_⟩⟩
      have hd2 : (tl z).drop (i + g) = f :: u ++ r := by
        have : g = (if t = true then [45] else [] : List Nat).length := by rw [eg]; cases t <;> rfl
        rw [this]
        apply drop_more
        rw [hd, et, List.append_assoc]
      have s1 : Scr C (L2.upd H p (.ins C dx (putF "spot" (V.int ((i : Int) + if t = true then 1 else 0)) (scF z i d)))) p z (i + g) d := ⟨dx, by
        rw [upd_same, scF_psp z i d _ (i + g)]
        rw [eg]; cases t <;> simp⟩
      have b1 : But p H (L2.upd H p (.ins C dx (putF "spot" (V.int ((i : Int) + if t = true then 1 else 0)) (scF z i d)))) := But.upd
      generalize (L2.upd H p (.ins C dx (putF "spot" (V.int ((i : Int) + if t = true then 1 else 0)) (scF z i d)))) = H1 at s1 b1
      obtain ⟨dx1, hp1⟩ := s1
      refine ⟨_, rfl, p, dx1, _, rfl, hp1, nN _ _ _, _, rfl, _, rfl, by decide +kernel, p, z, _, i + g, d, f, u ++ r, rfl, ⟨dx1, hp1⟩, hz, hd2, ?_, fun H2 b2 s2 => ?_⟩
      · rw [cut_fig]
        simp only [List.mem_cons, List.not_mem_nil, or_false]
        omega
      obtain ⟨dx2, hp2⟩ := s2
      have hd3 : (tl z).drop (i + g + 1) = u ++ r := drop_more (u := [f]) hd2
      refine ⟨_, rfl, _, rfl, p, dx2, _, rfl, hp2, nR _ _ _, _, _, rfl, rfl, p, z, _, i + g + 1, d, 29, u, r, rfl, ⟨dx2, hp2⟩, hz, ?_, hd3, fun c m => mem_fig.mpr (hud c m), hul, .inr fun c e => ?_, fun H3 b3 s3 => ?_⟩
      · have := lt_of_drop (i := i + g) (l := tl z) hd2
        omega
      · rw [mem_fig]
        rcases hst c e with rfl | rfl <;> decide
      · refine ⟨_, _, rfl, rfl, ?_, ?_⟩
        · show 1 + (Sg u).length ≤ sizeLine
          refine small_line ?_
          rw [TL.len_tl]
          show 1 + u.length ≤ 1000
          omega
        · have en : Sg [f] ++ Sg u = Sg (numL n.natAbs) := by rw [ef]; exact SX.S_cat [f] u
          rw [en]
          refine ⟨_, ((n.natAbs : Nat) : Int), rfl, ?_, ?_, ?_⟩
          · have := SX.int_S (a := numL n.natAbs) (List.all_eq_true.mpr fun c m => by have := TL.numL_digits n.natAbs c m; simp; omega) (TL.numL_ne _) (by have := TL.numL_len (n := n.natAbs) (k := 30) (by decide) hn; omega)
            rw [TL.numL_val] at this
            exact this
          · rw [TL.len_tl]; have := TL.numL_len (n := n.natAbs) (k := 30) (by decide) hn; show (numL n.natAbs).length ≤ 640; omega
          · have hlen : i + g + 1 + u.length = i + (intL n).length := by rw [et, eg]; cases t <;> simp <;> omega
            rw [hlen] at s3
            refine ⟨_, rfl, t, rfl, ?_⟩
            have kk := k H3 (b1.trans (b2.trans b3)) s3
            cases t with
            | true =>
              refine ifp rfl ⟨_, rfl, _, rfl, ?_⟩
              show Q (V.int (-((n.natAbs : Nat) : Int))) H3
              rw [show -((n.natAbs : Nat) : Int) = n by have := ez.mp rfl; omega]
              exact kk
            | false =>
              refine ifn Bool.false_ne_true ⟨_, rfl, ?_⟩
              show Q (V.int ((n.natAbs : Nat) : Int)) H3
              rw [show ((n.natAbs : Nat) : Int) = n by have : ¬ n < 0 := fun z => absurd (ez.mpr z) Bool.false_ne_true; omega]
              exact kk

theorem same_but {Hs H H' : Hp} {p : Addr} (a : Same Hs H) (n : Hs p = none) (b : But p H H') : Same Hs H' := fun c o e => b c o (fun z => by subst z; rw [n] at e; cases e) (a c o e)
theorem sh_head {x : D} {h : Nat} (hv : vd h x) : ∃ c q, sh x = c :: q ∧ c ≠ 41 := by
  cases x <;> first | (cases h <;> exact hv.elim) | skip
  case str w =>
    have hw : word w := by cases h <;> exact hv
    have := hw.1
    rw [TL.len_tl] at this
    show ∃ c q, tl w = c :: q ∧ c ≠ 41
    cases e : tl w with
    | nil => rw [e] at this; cases this
    | cons c q =>
      have := hw.2.2 c (by rw [e]; exact List.mem_cons_self ..)
      exact ⟨c, q, rfl, by omega⟩
  case int n =>
    show ∃ c q, intL n = c :: q ∧ c ≠ 41
    unfold intL
    split
    · exact ⟨_, _, rfl, by decide⟩
    · cases e : numL n.natAbs with
      | nil => exact absurd e (TL.numL_ne _)
      | cons c q =>
        have := TL.numL_digits n.natAbs c (by rw [e]; exact List.mem_cons_self ..)
        exact ⟨c, q, rfl, by omega⟩
  case tuple ds => exact ⟨40, _, by simp only [sh]; rfl, by decide⟩
theorem ok_part (T : Tx K mg) (B : C_Scribe K mg C) {h k : Nat} (O5 : OkM P w K mg base C k "brackets" ["self"] (spPart K C h true)) (hk : 3 ≤ k) : OkM P w K mg base C (k + 1) "any_part" ["self"] (spPart K C h false) := by
  have O1 : OkM P w K mg base C 1 "sign_ahead" ["self"] (spAhead C) := ok_ahead B
  have O3 : OkM P w K mg base C 1 "run_of" ["self", "some", "most"] (spRun C) := ok_run T B
  have O4 : OkM P w K mg base C 3 "whole_number" ["self"] (spNum C) := ok_num T B
  refine OkM.mk B.m_any_part sc_Scribe_any_part (fun vs H Q E h => ?_) (fun f cdv A outer s H vs Q E hr h => ?_)
  · obtain ⟨p, z, i, d, x, r, Hs, rfl, _⟩ := h; rfl
  · obtain ⟨p, z, i, d, x, r, Hs, rfl, ⟨dx, hp⟩, hz, hd, hv, hdh, hxx, hst, hs, hsp, k⟩ := h
    have hst := hst rfl
    clear hxx
    have nA : ∀ z i d, (scF z i d).lookup ("sign_ahead" : Str) = none := fun z i d => scF_no _ _ _ (by decide +kernel) (by decide +kernel) (by decide +kernel)
    have nR : ∀ z i d, (scF z i d).lookup ("run_of" : Str) = none := fun z i d => scF_no _ _ _ (by decide +kernel) (by decide +kernel) (by decide +kernel)
    have nW : ∀ z i d, (scF z i d).lookup ("whole_number" : Str) = none := fun z i d => scF_no _ _ _ (by decide +kernel) (by decide +kernel) (by decide +kernel)
    have nB : ∀ z i d, (scF z i d).lookup ("brackets" : Str) = none := fun z i d => scF_no _ _ _ (by decide +kernel) (by decide +kernel) (by decide +kernel)
    refine ⟨_, pss_cons (ps_set (i := 1) sc_Scribe_any_part.nd rfl (Or.inl rfl) (pe_mth0 (pv 0) B.k.cl O1 (hr.mono (by omega))))
      (pss_cons (ps_if (PW.pt (pw_and (pt_cmpR (neG K rfl hr.units) (pv 1) pe_str (nomark _)) (pw_and1 (pt_cmpR op_in_str (pv 1) (pe_gv (by rfl) T.g_SMALL) (by rfl)))))
        (pss_one (ps_ret (pe_mth (pv 0) B.k.cl O3 (hr.mono (by omega)) (pa_cons (pe_gv (by rfl) T.g_SMALL) (pa_cons (pe_gv (by rfl) T.g_MOST_LETTERS) pa_nil))))) pss_nil)
      (pss_cons (ps_if (PW.pt (pw_and (pt_cmpR (neG K rfl hr.units) (pv 1) pe_str (nomark _)) (pw_and1 (pt_cmpR op_in_str (pv 1) (pe_op op_add_str (pe_gv (by rfl) T.g_FIGURES) pe_str) (by rfl)))))
        (pss_one (ps_ret (pe_mth0 (pv 0) B.k.cl O4 (hr.mono (by omega))))) pss_nil)
      (pss_one (ps_ret (pe_mth0 (pv 0) B.k.cl O5 (hr.mono (by omega))))))), ?_⟩
    refine ⟨_, rfl, p, dx, _, rfl, hp, nA _ _ _, p, z, i, d, rfl, ⟨dx, hp⟩, hz, ?_⟩
    have hh : ∃ c q, sh x = c :: q := by
      cases x <;> first | (cases h <;> exact hv.elim) | skip
      case str w =>
        have hw : word w := by cases h <;> exact hv
        have := hw.1
        rw [TL.len_tl] at this
        show ∃ c q, tl w = c :: q
        cases e : tl w with
        | nil => rw [e] at this; cases this
        | cons c q => exact ⟨c, q, rfl⟩
      case int n =>
        show ∃ c q, intL n = c :: q
        unfold intL
        split
        · exact ⟨_, _, rfl⟩
        · cases e : numL n.natAbs with
          | nil => exact absurd e (TL.numL_ne _)
          | cons c q => exact ⟨c, q, rfl⟩
      case tuple ds => exact ⟨_, _, by simp only [sh]; rfl⟩
    obtain ⟨c, q, ec⟩ := hh
    have ef : (Sg (List.take 1 (c :: q ++ r)) : Str) = ⟨#[c]⟩ := rfl
    have hil := lt_of_drop (show (tl z).drop i = c :: (q ++ r) by rw [hd, ec]; rfl)
    rw [hd, ec, ef]
    have ne : ∀ {A B : Prop}, A → if (!decide (V.str ⟨#[c]⟩ = V.str (Str.ofString ""))) = true then A else B := fun a => ifp (by
      rw [Bool.not_eq_true', Bool.eq_false_iff]
      exact sg_no (c := c) (r := []) (by rw [tl_e]; exact fun z => nomatch z)) a
    refine ⟨_, rfl, .inl ⟨rfl, _, rfl, ne ⟨_, rfl, _, _, rfl, rfl, _, rfl, ?_⟩⟩⟩
    rw [StrLaws.found_one]
    by_cases c1 : c ∈ tl (Str.ofString "abcdefghijklmnopqrstuvwxyz")
    · -- a word
      refine ifp (decide_eq_true c1) ?_
      rw [mem_small] at c1
      obtain ⟨wd, rfl, hw⟩ : ∃ wd, x = .str wd ∧ word wd := by
        cases x <;> first | (cases h <;> exact hv.elim) | skip
        case str wd => exact ⟨wd, rfl, by cases h <;> exact hv⟩
        case int n =>
          exfalso
          have e' : intL n = c :: q := ec
          unfold intL at e'
          split at e'
          · injection e' with e1 e2; omega
          · have := TL.numL_digits n.natAbs c (by rw [e']; exact List.mem_cons_self ..)
            omega
        case tuple ds => exfalso; simp only [sh] at ec; injection ec with e1 e2; omega
      have e2 : sh (.str wd) = tl wd := by simp only [sh]
      rw [e2] at hd k
      refine ⟨_, rfl, p, dx, _, rfl, hp, nR _ _ _, p, z, _, i, d, 8, tl wd, r, rfl, ⟨dx, hp⟩, hz, by omega, hd, fun c m => mem_small.mpr (hw.2.2 c m), by rw [← TL.len_tl]; exact hw.2.1, .inr fun c e => ?_, fun H' b' s' => ?_⟩
      · rw [mem_small]; rcases hst c e with rfl | rfl <;> decide
      · rw [show (Sg (tl wd) : Str) = wd from TL.mk_tl wd]
        exact k _ Hs H' (Same.refl _) (same_but hs hsp b') b' (fun b h1 h2 => absurd h1 h2) s' (Rp.str _)
    · refine ifn (by simpa using c1) ?_
      refine ⟨_, rfl, .inl ⟨rfl, _, rfl, ne ⟨_, rfl, _, _, rfl, rfl, by decide +kernel, _, _, rfl, rfl, _, rfl, ?_⟩⟩⟩
      rw [StrLaws.found_one]
      rw [mem_small] at c1
      have mf : c ∈ (Str.ofString "0123456789" ++ Str.ofString "-").cps.toList ↔ (48 ≤ c ∧ c ≤ 57) ∨ c = 45 := by
        show c ∈ tl (Str.ofString "0123456789" ++ Str.ofString "-") ↔ _
        rw [TL.tl_append, List.mem_append, mem_fig, tl_m, List.mem_singleton]
      by_cases c2 : (48 ≤ c ∧ c ≤ 57) ∨ c = 45
      · refine ifp (decide_eq_true (mf.mpr c2)) ?_
        obtain ⟨n, rfl, hn⟩ : ∃ n, x = .int n ∧ n.natAbs < 10 ^ 30 := by
          cases x <;> first | (cases h <;> exact hv.elim) | skip
          case int n => exact ⟨n, rfl, by cases h <;> exact hv⟩
          case str wd =>
            exfalso
            have hw : word wd := by cases h <;> exact hv
            have e' : tl wd = c :: q := ec
            have := hw.2.2 c (by rw [e']; exact List.mem_cons_self ..)
            omega
          case tuple ds => exfalso; simp only [sh] at ec; injection ec with e1 e2; omega
        have e2 : sh (.int n) = intL n := by simp only [sh]
        rw [e2] at hd k
        refine ⟨_, rfl, p, dx, _, rfl, hp, nW _ _ _, p, z, i, d, n, r, rfl, ⟨dx, hp⟩, hz, hd, hn, hst, fun H' b' s' => ?_⟩
        exact k _ Hs H' (Same.refl _) (same_but hs hsp b') b' (fun b h1 h2 => absurd h1 h2) s' (Rp.int _)
      · refine ifn (by rw [decide_eq_true_eq, mf]; exact c2) ?_
        have ht : ∃ ds, x = .tuple ds := by
          cases x <;> first | (cases h <;> exact hv.elim) | skip
          case tuple ds => exact ⟨ds, rfl⟩
          case str wd =>
            exfalso
            have hw : word wd := by cases h <;> exact hv
            have e' : tl wd = c :: q := ec
            have := hw.2.2 c (by rw [e']; exact List.mem_cons_self ..)
            omega
          case int n =>
            exfalso
            have e' : intL n = c :: q := ec
            unfold intL at e'
            split at e'
            · injection e' with e1 e2; omega
            · have := TL.numL_digits n.natAbs c (by rw [e']; exact List.mem_cons_self ..)
              omega
        exact ⟨_, rfl, p, dx, _, rfl, hp, nB _ _ _, p, z, i, d, x, r, Hs, rfl, ⟨dx, hp⟩, hz, hd, hv, hdh, fun _ => ht, fun z => Bool.noConfusion z, hs, hsp, k⟩
end

/-! ### brackets, read -/
theorem shL_len : ∀ ds : List D, (shL ds).length = ds.length
  | [] => by simp only [shL, List.length_nil]
  | d :: ds => by simp only [shL, List.length_cons, shL_len ds]
theorem shL_app : ∀ ds es : List D, shL (ds ++ es) = shL ds ++ shL es
  | [], es => by simp [shL]
  | d :: ds, es => by simp only [List.cons_append, shL, shL_app ds es]
theorem small_big {n : Nat} (h : n ≤ 2000000) : n ≤ sizeLine := Nat.le_trans h (by decide)
theorem tail_len : ∀ xs : List (List Nat), xs.length ≤ (tailL xs).length
  | [] => Nat.zero_le _
  | x :: xs => by
    have := tail_len xs
    unfold tailL at this ⊢
    rw [List.flatMap_cons, List.length_append, List.length_cons, List.length_cons]
    omega
theorem tail_cons (x : List Nat) (xs : List (List Nat)) : tailL (x :: xs) = 32 :: (x ++ tailL xs) := by simp [tailL]
theorem few_parts (ds : List D) : ds.length + 1 ≤ (sh (.tuple ds)).length := by
  simp only [sh]
  cases ds with
  | nil => simp [shL, joinL]
  | cons e r =>
    simp only [shL]
    rw [join_tail]
    simp only [List.length_cons, List.length_append, List.length_nil]
    have := tail_len (shL r)
    rw [shL_len] at this
    omega
/-- what stands between the parts -/
structure Cm (Hs H : Hp) (p q : Addr) (Hs' H' : Hp) : Prop where
  a : Same Hs Hs'
  b : Same Hs' H'
  c : But p H H'
  d : ∀ b, Hs b = none → Hs' b ≠ none → H b = none
  e : Hs' p = none
  f : Hs' q = none
theorem Cm.upd {Hs H : Hp} {p q : Addr} {Hs' H' : Hp} (m : Cm Hs H p q Hs' H') {o : HO} (hq : H q = none) : Cm Hs H p q Hs' (L2.upd H' q o) :=
  ⟨m.a, fun x u e => by rw [upd_ne (fun z => by subst z; rw [m.f] at e; cases e)]; exact m.b x u e, fun x u n e => by rw [upd_ne (ne_of_none e hq)]; exact m.c x u n e, m.d, m.e, m.f⟩
theorem Cm.own {Hs H : Hp} {p q : Addr} {Hs' H' H2 : Hp} (m : Cm Hs H p q Hs' H') (b : But p H' H2) : Cm Hs H p q Hs' H2 :=
  ⟨m.a, same_but m.b m.e b, m.c.trans b, m.d, m.e, m.f⟩
theorem Cm.more {Hs H : Hp} {p q : Addr} {Hs' H' Hs2 H2 : Hp} (m : Cm Hs H p q Hs' H') (st : Same Hs' Hs2) (sb : Same Hs2 H2) (b : But p H' H2) (nw : ∀ b, Hs' b = none → Hs2 b ≠ none → H' b = none) {u v : HO} (hp : H' p = some u) (hq : H' q = some v) : Cm Hs H p q Hs2 H2 := by
  have p2 : Hs2 p = none := none_of_new nw m.e hp
  refine ⟨m.a.trans st, sb, m.c.trans b, fun x e1 e2 => ?_, p2, none_of_new nw m.f hq⟩
  cases e : Hs' x with
  | some o => exact m.d x e1 (by rw [e]; exact fun z => nomatch z)
  | none =>
    have h1 := nw x e e2
    cases e3 : H x with
    | none => rfl
    | some o =>
      have := m.c x o (fun z => by subst z; exact e2 p2) e3
      rw [h1] at this
      cases this
section
variable {P : Program} {w : World} {K : PySem.W.Frag} {mg : Str → Option Value} {base : Heap} {C : Addr}
theorem ok_br0 (B : C_Scribe K mg C) : OkM P w K mg base C 3 "brackets" ["self"] (spPart K C 0 true) := by
  have no : ∀ {vs H Q E}, spPart K C 0 true vs H Q E → False := fun h => by
    obtain ⟨p, z, i, d, x, r, Hs, rfl, _, _, _, hv, _, ht, _⟩ := h
    obtain ⟨ds, rfl⟩ := ht rfl
    exact hv
  exact OkM.mk B.m_brackets sc_Scribe_brackets (fun vs H Q E h => (no h).elim) (fun f cdv A outer s H vs Q E hr h => (no h).elim)
theorem ok_br (T : Tx K mg) (B : C_Scribe K mg C) {h k : Nat} (O6 : OkM P w K mg base C k "any_part" ["self"] (spPart K C h false)) (hk : 3 ≤ k) : OkM P w K mg base C (k + 1) "brackets" ["self"] (spPart K C (h + 1) true) := by
  have O1 : OkM P w K mg base C 1 "sign_ahead" ["self"] (spAhead C) := ok_ahead B
  have O2 : OkM P w K mg base C 2 "need_sign" ["self", "some"] (spNeed C) := ok_need B
  refine OkM.mk B.m_brackets sc_Scribe_brackets (fun vs H Q E h => ?_) (fun f cdv A outer s H vs Q E hr hh => ?_)
  · obtain ⟨p, z, i, d, x, r, Hs, rfl, _⟩ := h; rfl
  · obtain ⟨p, z, i, d, x, r, Hs, rfl, ⟨dx, hp⟩, hz, hd, hv, hdh, hx, _, hs, hsp, kk⟩ := hh
    obtain ⟨ds, rfl⟩ := hx rfl
    have hv : ∀ e ∈ ds, vd h e := hv
    have nA : ∀ z i d, (scF z i d).lookup ("sign_ahead" : Str) = none := fun z i d => scF_no _ _ _ (by decide +kernel) (by decide +kernel) (by decide +kernel)
    have nN : ∀ z i d, (scF z i d).lookup ("need_sign" : Str) = none := fun z i d => scF_no _ _ _ (by decide +kernel) (by decide +kernel) (by decide +kernel)
    have nP : ∀ z i d, (scF z i d).lookup ("any_part" : Str) = none := fun z i d => scF_no _ _ _ (by decide +kernel) (by decide +kernel) (by decide +kernel)
    have esh : sh (.tuple ds) = 40 :: (joinL [32] (shL ds) ++ [41]) := by simp only [sh]
    have few : ds.length < sizeLine := by
      have h1 := few_parts ds
      have h2 := congrArg List.length hd
      rw [List.length_drop, List.length_append] at h2
      rw [TL.len_tl] at hz
      omega
    refine ⟨_, pss_cons (ps_if (PW.pt (pw_and (pt_cmpR (eqG K rfl hr.units) (pe_mth0 (pv 0) B.k.cl O1 (hr.mono (by omega))) pe_str (nomark _)) (pw_and1 (pt_cmpR (eqG K rfl hr.units) (pe_fld (pv 0) rfl) (pe_gv (by rfl) T.g_MOST_BRACKETS) (nomark _))))) (pss_one ps_never) pss_nil)
      (pss_cons (ps_expr (pe_mth (pv 0) B.k.cl O2 (hr.mono (by omega)) (pa_cons pe_str pa_nil)))
      (pss_cons (ps_fldaug (pv 0) pe_int in_add)
      (pss_cons (ps_set (i := 1) sc_Scribe_brackets.nd rfl (Or.inl rfl) (pe_lst pa_nil))
      (C8.pss_cut (ps_if (pt_cmpR (neG K rfl hr.units) (pe_mth0 (pv 0) B.k.cl O1 (hr.mono (by omega))) pe_str (nomark _)) (pss_one (ps_expr (appK K rfl (pv 1) (pe_mth0 (pv 0) B.k.cl O6 (hr.mono (by omega)))))) pss_nil)
      (C8.pss_cut (ps_while PassesOwn.never (PW.pt (pw_and (pt_cmpR (neG K rfl hr.units) (pv 1) (pe_lst pa_nil) (nomark _)) (pw_and1 (pt_cmpR (neG K rfl hr.units) (pe_mth0 (pv 0) B.k.cl O1 (hr.mono (by omega))) pe_str (nomark _)))))
        (pss_cons (ps_expr (pe_mth (pv 0) B.k.cl O2 (hr.mono (by omega)) (pa_cons pe_str pa_nil))) (pss_one (ps_expr (appK K rfl (pv 1) (pe_mth0 (pv 0) B.k.cl O6 (hr.mono (by omega))))))))
      (pss_cons (ps_expr (pe_mth (pv 0) B.k.cl O2 (hr.mono (by omega)) (pa_cons pe_str pa_nil)))
      (pss_cons (ps_fldaug (pv 0) pe_int in_sub)
      (pss_one (ps_ret (pe_callTy (tupQ K rfl) (by rfl) T.z_tuple boot_tuple (pa_cons (pv 1) pa_nil))))))))))), ?_⟩
    -- the bracket's begin
    refine ⟨_, rfl, p, dx, _, rfl, hp, nA _ _ _, p, z, i, d, rfl, ⟨dx, hp⟩, hz, ?_⟩
    have hd1 : (tl z).drop i = 40 :: (joinL [32] (shL ds) ++ 41 :: r) := by rw [hd, esh]; simp
    rw [hd1]
    refine .inl ⟨rfl, _, rfl, ifp (sg_yes tl_lp) ⟨_, rfl, p, C, dx, _, _, rfl, hp, B.k.cl, B.n_depth, scF_dp _ _ _, .inl ⟨rfl, _, rfl, ifn (fun e => ?_) ?_⟩⟩⟩
    · have e := of_decide_eq_true e
      injection e with e
      omega
    refine ⟨_, rfl, p, dx, _, rfl, hp, nN _ _ _, p, z, _, i, d, 40, _, rfl, ⟨dx, hp⟩, hz, hd1, by rw [tl_lp]; exact List.mem_singleton.mpr rfl, fun H1 b1 s1 => ?_⟩
    obtain ⟨dx1, hp1⟩ := s1
    refine ⟨_, rfl, p, C, dx1, _, _, rfl, hp1, B.k.cl, B.n_depth, scF_dp _ _ _, _, _, rfl, rfl, dx1, _, hp1, scF_len _ _ _, ?_⟩
    rw [scF_pdp z (i + 1) d _ (d + 1) (by omega)]
    have b2 : But p H (L2.upd H1 p (.ins C dx1 (scF z (i + 1) (d + 1)))) := b1.trans But.upd
    have hp2 : (L2.upd H1 p (.ins C dx1 (scF z (i + 1) (d + 1)))) p = some (.ins C dx1 (scF z (i + 1) (d + 1))) := upd_same
    generalize (L2.upd H1 p (.ins C dx1 (scF z (i + 1) (d + 1)))) = H2 at b2 hp2
    refine ⟨by show 0 ≤ sizeLine; exact Nat.zero_le _, fun q nq => ?_⟩
    have pq : p ≠ q := ne_of_none hp2 nq
    have hq0 : H q = none := b2.free pq.symm nq
    have hsq : Hs q = none := by
      cases e : Hs q with
      | none => rfl
      | some o => have := hs _ _ e; rw [hq0] at this; cases this
    have m2 : Cm Hs H p q Hs (L2.upd H2 q (.lst [])) := Cm.upd ⟨Same.refl _, same_but hs hsp b2, b2, fun b e1 e2 => absurd e1 e2, hsp, hsq⟩ hq0
    have hq3 : (L2.upd H2 q (.lst [])) q = some (.lst []) := upd_same
    have s3 : Scr C (L2.upd H2 q (.lst [])) p z (i + 1) (d + 1) := ⟨dx1, by rw [upd_ne pq]; exact hp2⟩
    generalize (L2.upd H2 q (.lst [])) = H3 at m2 hq3 s3
    have hd3 : (tl z).drop (i + 1) = joinL [32] (shL ds) ++ 41 :: r := drop_more (u := [40]) hd1
    -- a part, put to the others
    have step : ∀ (done : List D) (e : D) (Hs' H' : Hp) (i' : Nat) (xs : List V) (rest : List Nat) (Q' : VK), e ∈ ds → done.length < ds.length → Stop rest → Scr C H' p z i' (d + 1) → (tl z).drop i' = sh e ++ rest → H' q = some (.lst xs) → RpAll K Hs' xs done → Cm Hs H p q Hs' H' →
        (∀ v Hs2 H2, H2 q = some (.lst xs) → xs.length < sizeLine → Cm Hs H p q Hs2 (L2.upd H2 q (.lst (xs ++ [v]))) → Scr C (L2.upd H2 q (.lst (xs ++ [v]))) p z (i' + (sh e).length) (d + 1) → RpAll K Hs2 (xs ++ [v]) (done ++ [e]) → Q' v H2) → spPart K C h false [.ref p] H' Q' E0 := by
      intro done e Hs' H' i' xs rest Q' me hl hst sc hdr hq rp cm fin
      refine ⟨p, z, i', d + 1, e, rest, Hs', rfl, sc, hz, hdr, hv e me, by omega, fun z => Bool.noConfusion z, fun _ => hst, cm.b, cm.e, fun v Hs2 H4 g1 g2 g3 g4 g5 g6 => ?_⟩
      obtain ⟨dx', hp'⟩ := sc
      have cm2 := cm.more g1 g2 g3 g4 hp' hq
      exact fin v Hs2 H4 (g3 _ _ pq.symm hq) (by rw [rp.len]; omega) (cm2.upd hq0) (by obtain ⟨dx4, e4⟩ := g5; exact ⟨dx4, by rw [upd_ne pq]; exact e4⟩) ((RpAll.mono g1 rp).app (.cons g6 .nil))
    -- between the parts
    refine ⟨fun σ H' => σ = [some (.ref p), some (.ref q)] ∧ ∃ done todo i' Hs' xs, done ++ todo = ds ∧ (done = [] → todo = []) ∧ Scr C H' p z i' (d + 1) ∧ (tl z).drop i' = tailL (shL todo) ++ 41 :: r ∧ i' + (tailL (shL todo)).length + 1 = i + (sh (.tuple ds)).length ∧ H' q = some (.lst xs) ∧ RpAll K Hs' xs done ∧ Cm Hs H p q Hs' H', ?_, ?_⟩
    · obtain ⟨dx3, hp3⟩ := s3
      refine ⟨_, rfl, p, dx3, _, rfl, hp3, nA _ _ _, p, z, i + 1, d + 1, rfl, ⟨dx3, hp3⟩, hz, ?_⟩
      cases ds with
      | nil =>
        have e0 : joinL [32] (shL ([] : List D)) = [] := by simp only [shL]; rfl
        rw [e0] at hd3 esh
        rw [hd3]
        refine .inl ⟨rfl, _, rfl, ifn ?_ ⟨rfl, [], [], i + 1, Hs, [], rfl, fun _ => rfl, ⟨dx3, hp3⟩, by rw [hd3]; simp [shL, tailL], by rw [esh]; simp [shL, tailL], hq3, .nil, m2⟩⟩
        rw [show ([] ++ 41 :: r : List Nat) = 41 :: r from rfl, sg_yes tl_rp]
        exact Bool.false_ne_true
      | cons e todo =>
        have e0 : joinL [32] (shL (e :: todo)) = sh e ++ tailL (shL todo) := by simp only [shL]; exact join_tail _ _
        rw [e0] at hd3 esh
        rw [List.append_assoc] at hd3
        have ve := hv e (List.mem_cons_self ..)
        obtain ⟨c, u, ec, hc⟩ := sh_head ve
        rw [hd3, ec]
        refine .inl ⟨rfl, _, rfl, ifp ?_ ?_⟩
        · rw [Bool.not_eq_true', Bool.eq_false_iff]
          exact sg_no (by rw [tl_rp]; intro z; injection z with z1 z2; omega)
        refine ⟨_, rfl, .inl ⟨rfl, [], SqL.of hq3⟩, _, rfl, p, dx3, _, rfl, hp3, nP _ _ _, ?_⟩
        refine step [] e Hs H3 (i + 1) [] _ _ (List.mem_cons_self ..) (by simp) (stop_tail _ _) ⟨dx3, hp3⟩ hd3 hq3 .nil m2 fun v Hs2 H4 hq2 hl2 cm2 sc2 rp2 => ?_
        refine ⟨q, [], v, rfl, rfl, hq2, hl2, rfl, [e], todo, _, Hs2, [v], rfl, (fun z => nomatch z), sc2, drop_more hd3, ?_, upd_same, rp2, cm2⟩
        rw [esh]
        simp
        omega
    rintro σ H' ⟨rfl, st⟩
    refine ⟨fun σ H' => σ = [some (.ref p), some (.ref q)] ∧ ∃ i' Hs' xs, Scr C H' p z i' (d + 1) ∧ (tl z).drop i' = 41 :: r ∧ i' + 1 = i + (sh (.tuple ds)).length ∧ H' q = some (.lst xs) ∧ RpAll K Hs' xs ds ∧ Cm Hs H p q Hs' H', ?_, ?_⟩
    · refine ⟨fun n σ H' => σ = [some (.ref p), some (.ref q)] ∧ ∃ done todo i' Hs' xs, n = todo.length ∧ done ++ todo = ds ∧ (done = [] → todo = []) ∧ Scr C H' p z i' (d + 1) ∧ (tl z).drop i' = tailL (shL todo) ++ 41 :: r ∧ i' + (tailL (shL todo)).length + 1 = i + (sh (.tuple ds)).length ∧ H' q = some (.lst xs) ∧ RpAll K Hs' xs done ∧ Cm Hs H p q Hs' H', ?_, ?_⟩
      · obtain ⟨done, todo, i', Hs', xs, st⟩ := st
        exact ⟨todo.length, rfl, done, todo, i', Hs', xs, rfl, st⟩
      rintro n σ H' ⟨rfl, done, todo, i', Hs', xs, rfl, e1, e2, ⟨dx', hp'⟩, e4, e5, e6, e7, e8⟩
      refine ⟨_, rfl, by show 0 ≤ sizeLine; exact Nat.zero_le _, fun l nl => ?_⟩
      have dn : ∀ e ∈ done, vd h e := fun e m => hv e (by rw [← e1]; exact List.mem_append_left _ m)
      have ql : q ≠ l := ne_of_none e6 nl
      have pl : p ≠ l := ne_of_none hp' nl
      have cm' : Cm Hs H p q Hs' (L2.upd H' l (.lst [])) := e8.own (But.new nl)
      have hq' : (L2.upd H' l (.lst [])) q = some (.lst xs) := by rw [upd_ne ql]; exact e6
      have hp'' : (L2.upd H' l (.lst [])) p = some (.ins C dx' (scF z i' (d + 1))) := by rw [upd_ne pl]; exact hp'
      refine .inr ⟨.list done, .list [], Rd'.dp (ifp rfl ⟨q, _, rfl, hq', .lst e7⟩) cm'.b (vd_shL dn (by omega)), Rd'.dp (ifp rfl ⟨l, _, rfl, upd_same, .lst .nil⟩) cm'.b (show SeqAt.shaped _ = true by decide +kernel), vd_shL dn (by omega), by decide +kernel, _, rfl, ?_⟩
      generalize (L2.upd H' l (.lst [])) = H5 at cm' hq' hp''
      cases done with
      | nil =>
        have e3 := e2 rfl
        subst e3
        refine ifn (by simp [PyData.eqv, PyData.eqvAll]) ?_
        have : ds = [] := e1.symm
        subst this
        exact ⟨rfl, i', Hs', xs, ⟨dx', hp''⟩, e4, e5, hq', e7, cm'⟩
      | cons d0 dr =>
        refine ifp (by simp [PyData.eqv, PyData.eqvAll]) ?_
        refine ⟨_, rfl, p, dx', _, rfl, hp'', nA _ _ _, p, z, i', d + 1, rfl, ⟨dx', hp''⟩, hz, ?_⟩
        rw [e4]
        cases todo with
        | nil =>
          have et : tailL (shL ([] : List D)) = [] := by simp only [shL]; rfl
          rw [et] at e4 e5 ⊢
          refine .inl ⟨rfl, _, rfl, ifn ?_ ⟨rfl, i', Hs', xs, ⟨dx', hp''⟩, e4, e5, hq', by rw [← e1, List.append_nil]; exact e7, cm'⟩⟩
          rw [show ([] ++ 41 :: r : List Nat) = 41 :: r from rfl, sg_yes tl_rp]
          exact Bool.false_ne_true
        | cons e todo =>
          have et : tailL (shL (e :: todo)) = 32 :: (sh e ++ tailL (shL todo)) := by simp only [shL]; exact tail_cons _ _
          rw [et] at e4 e5 ⊢
          refine .inl ⟨rfl, _, rfl, ifp ?_ ?_⟩
          · rw [Bool.not_eq_true', Bool.eq_false_iff]
            exact sg_no (by rw [tl_rp]; intro z; injection z with z1 z2; omega)
          refine ⟨fun σ' H'' => ∃ m', m' < (e :: todo).length ∧ (σ' = [some (.ref p), some (.ref q)] ∧ ∃ done todo i' Hs' xs, m' = todo.length ∧ done ++ todo = ds ∧ (done = [] → todo = []) ∧ Scr C H'' p z i' (d + 1) ∧ (tl z).drop i' = tailL (shL todo) ++ 41 :: r ∧ i' + (tailL (shL todo)).length + 1 = i + (sh (.tuple ds)).length ∧ H'' q = some (.lst xs) ∧ RpAll K Hs' xs done ∧ Cm Hs H p q Hs' H''), fun _ _ h => h, ?_⟩
          refine ⟨_, rfl, p, dx', _, rfl, hp'', nN _ _ _, p, z, _, i', d + 1, 32, _, rfl, ⟨dx', hp''⟩, hz, e4, by rw [tl_sp]; exact List.mem_singleton.mpr rfl, fun H6 b6 s6 => ?_⟩
          obtain ⟨dx6, hp6⟩ := s6
          have hq6 := b6 _ _ pq.symm hq'
          have hd6 : (tl z).drop (i' + 1) = sh e ++ (tailL (shL todo) ++ 41 :: r) := by
            have := drop_more (u := [32]) (r := (sh e ++ tailL (shL todo)) ++ 41 :: r) e4
            rw [List.append_assoc] at this
            exact this
          refine ⟨_, rfl, .inl ⟨rfl, xs, SqL.of hq6⟩, _, rfl, p, dx6, _, rfl, hp6, nP _ _ _, ?_⟩
          refine step (d0 :: dr) e Hs' H6 (i' + 1) xs _ _ (by rw [← e1]; exact List.mem_append_right _ (List.mem_cons_self ..)) (by rw [← e1, List.length_append]; simp) (stop_tail _ _) ⟨dx6, hp6⟩ hd6 hq6 e7 (cm'.own b6) fun v Hs2 H4 hq2 hl2 cm2 sc2 rp2 => ?_
          refine ⟨q, xs, v, rfl, rfl, hq2, hl2, todo.length, by simp, rfl, d0 :: dr ++ [e], todo, _, Hs2, xs ++ [v], rfl, by rw [← e1]; simp, (fun z => nomatch z), sc2, drop_more hd6, ?_, upd_same, rp2, cm2⟩
          rw [List.length_cons, List.length_append] at e5
          omega
    rintro σ H' ⟨rfl, i', Hs', xs, ⟨dx', hp'⟩, e4, e5, e6, e7, e8⟩
    refine ⟨_, rfl, p, dx', _, rfl, hp', nN _ _ _, p, z, _, i', d + 1, 41, r, rfl, ⟨dx', hp'⟩, hz, e4, by rw [tl_rp]; exact List.mem_singleton.mpr rfl, fun H6 b6 s6 => ?_⟩
    obtain ⟨dx6, hp6⟩ := s6
    refine ⟨_, rfl, p, C, dx6, _, _, rfl, hp6, B.k.cl, B.n_depth, scF_dp _ _ _, _, _, rfl, rfl, dx6, _, hp6, scF_len _ _ _, ?_⟩
    rw [scF_pdp z (i' + 1) (d + 1) _ d (by omega)]
    have cm7 : Cm Hs H p q Hs' (L2.upd H6 p (.ins C dx6 (scF z (i' + 1) d))) := e8.own (b6.trans But.upd)
    have hp7 : (L2.upd H6 p (.ins C dx6 (scF z (i' + 1) d))) p = some (.ins C dx6 (scF z (i' + 1) d)) := upd_same
    have hq7 : (L2.upd H6 p (.ins C dx6 (scF z (i' + 1) d))) q = some (.lst xs) := by rw [upd_ne pq.symm]; exact b6 _ _ pq.symm e6
    generalize (L2.upd H6 p (.ins C dx6 (scF z (i' + 1) d))) = H7 at cm7 hp7 hq7
    refine ⟨_, rfl, q, xs, rfl, .inl ⟨SqL.of hq7, fun l nl => ?_⟩⟩
    have nl' : Hs' l = none := by
      cases e : Hs' l with
      | none => rfl
      | some o => have := cm7.b _ _ e; rw [nl] at this; cases this
    refine kk _ (L2.upd Hs' l (.tup xs)) _ (cm7.a.trans (same_upd nl')) (fun b o e => ?_) (cm7.c.trans (But.new nl)) (fun b h1 h2 => ?_) ⟨dx6, by rw [upd_ne (ne_of_none hp7 nl), hp7, e5]⟩ (Rp.tup (SqT.of upd_same) (RpAll.mono (same_upd nl') e7))
    · by_cases hb : b = l
      · subst hb; rw [upd_same] at e ⊢; exact e
      · rw [upd_ne hb] at e ⊢; exact cm7.b _ _ e
    · by_cases hb : b = l
      · subst hb
        cases e : H b with
        | none => rfl
        | some o =>
          have := cm7.c b o (fun z => by subst z; rw [hp7] at nl; cases nl) e
          rw [nl] at this; cases this
      · rw [upd_ne hb] at h2
        exact cm7.d b h1 h2
end

/-! ### read -/
def readF : DF := fun ds Q => match ds with
  | [d] => (match d with
    | .str z => ∃ xs, vd 40 (.tuple xs) ∧ tl z = sh (.tuple xs) ∧ z.length ≤ sizeLine ∧ Q (.tuple xs)
    | _ => False)
  | _ => False
section
variable {P : Program} {w : World} {K : PySem.W.Frag} {mg : Str → Option Value} {base : Heap}
theorem ok_parts {C : Addr} (T : Tx K mg) (B : C_Scribe K mg C) : ∀ h : Nat, OkM P w K mg base C (2 * h + 3) "brackets" ["self"] (spPart K C h true)
  | 0 => ok_br0 B
  | h + 1 => ok_br (k := 2 * h + 4) T B (ok_part T B (ok_parts T B h) (by omega)) (by omega)
theorem ok_read (T : Tx K mg) : Ok P w K mg base 85 "read" ["writing"] (spN K 1 .E readF) := by
  obtain ⟨C, B⟩ := T.c_Scribe
  have O0 : OkM P w K mg base C 1 "__init__" ["self", "signs"] (spScI C) := ok_scI B
  have O5 : OkM P w K mg base C 83 "brackets" ["self"] (spPart K C 40 true) := ok_parts T B 40
  refine Ok.mk T.d_read sc_read (fun vs H Q E h => ?_) (fun f cdv A outer s H vs Q E hr h => ?_)
  · obtain ⟨Hs, ds, Q0, _, h2, h3, _⟩ := h
    rw [h2.len, h3]; rfl
  obtain ⟨Hs, ds, Q0, h1, h2, h3, h4, k⟩ := h
  match vs, ds, h2, h4 with
  | [v], [d], .cons hd .nil, h4 =>
    cases d <;> first | exact h4.elim | skip
    rename_i z
    cases hd
    obtain ⟨xs, hv, ez, hz, q⟩ := h4
    have nS : ∀ z i d, (scF z i d).lookup ("brackets" : Str) = none := fun z i d => scF_no _ _ _ (by decide +kernel) (by decide +kernel) (by decide +kernel)
    refine ⟨_, pss_cons (ps_set (i := 1) sc_read.nd rfl (Or.inl rfl) (pe_new B.k O0 (hr.mono (by omega)) (by rfl) (pa_cons (pv 0) pa_nil)))
      (pss_cons (ps_set (i := 2) sc_read.nd rfl (Or.inl rfl) (pe_mth0 (pv 1) B.k.cl O5 (hr.mono (by omega))))
      (pss_cons (ps_if (pt_cmpR op_lt (pe_fld (pv 1) rfl) (pe_callB call_len_str (by rfl) T.z_len boot_len (pa_cons (pv 0) pa_nil)) (nomark _)) (pss_one ps_never) pss_nil)
      (pss_one (ps_ret (pv 2))))), ?_⟩
    refine ⟨_, rfl, fun p dx np ndx ne => ⟨p, dx, z, rfl, upd_same, fun H1 b1 s1 => ⟨rfl, ?_⟩⟩⟩
    have sm0 : Same H (L2.upd (L2.upd H dx (.own p)) p (.ins C dx [])) := (same_upd ndx).trans (same_upd (by rw [upd_ne ne.symm]; exact np))
    have sm1 : Same H H1 := fun b o e => b1 b o (ne_of_none e np) (sm0 b o e)
    have hsp : Hs p = none := by
      cases e : Hs p with
      | none => rfl
      | some o => have := h1 _ _ e; rw [np] at this; cases this
    obtain ⟨dx1, hp1⟩ := s1
    refine ⟨_, rfl, p, dx1, _, rfl, hp1, nS _ _ _, p, z, 0, 0, .tuple xs, [], Hs, rfl, ⟨dx1, hp1⟩, hz, by rw [List.drop_zero, ez, List.append_nil], hv, by omega, fun _ => ⟨xs, rfl⟩, fun z => Bool.noConfusion z, h1.trans sm1, hsp, fun v Hs' H' g1 g2 g3 g4 g5 g6 => ?_⟩
    obtain ⟨dx2, hp2⟩ := g5
    refine ⟨_, rfl, p, C, dx2, _, _, rfl, hp2, B.k.cl, B.n_spot, scF_sp _ _ _, _, rfl, z, rfl, hz, _, _, rfl, rfl, _, rfl, ifn (fun e => ?_) ⟨_, rfl, ?_⟩⟩
    · have e := of_decide_eq_true e
      rw [TL.len_tl, ez] at e
      omega
    · refine k _ Hs' H' v q g1 g2 (fun b o e => g3 b o (ne_of_none e np) (sm1 b o e)) (fun b e1 e2 => ?_) g6
      have := g4 b e1 e2
      cases e : H b with
      | none => rfl
      | some o => rw [sm1 _ _ e] at this; cases this
  | [], [], _, h4 => exact h4.elim
  | _ :: _ :: _, _ :: _ :: _, _, h4 => exact absurd h3 (by simp)
/-! ### the law's own words -/
def numF : DFP := fun ds n Q => match ds with
  | [] => n + 50 ≤ 1000000000 ∧ ∀ (i : Int) (n' : Nat), i.natAbs < 10 ^ 30 → n' ≤ n + 50 → Q (.int i) n'
  | _ => False
theorem ok__law_wnumber (T : Tx K mg) (O__law_take : Ok P w K mg base 2 "_law_take" ["_law_pen", "_law_many"] (spP K 1 .E takeF)) : Ok P w K mg base 3 "_law_wnumber" ["_law_pen"] (spP K 0 .E numF) := by
  refine Ok.ofP (M := []) T.d__law_wnumber sc__law_wnumber rfl (by decide) (by decide) fun f cdv A outer s H E p c hr => ⟨_, _, (pss_cons (ps_set (i := 1) sc__law_wnumber.nd rfl (Or.inl rfl) (pe_fn O__law_take (hr.mono (by omega)) (by rfl) (pa_cons (pv 0) (pa_cons (pe_int) (pa_nil)))))
 (pss_cons (ps_set (i := 2) sc__law_wnumber.nd rfl (Or.inl rfl) (pe_op (addG K rfl) (pe_int) (pe_op op_fdivW (pv 1) (pe_int))))
 (pss_cons (ps_if (pt_cmpR (eqG K rfl hr.units) (pv 1) (pe_int) (nomark _))
 (pss_one (ps_set (i := 2) sc__law_wnumber.nd rfl (Or.inl rfl) (pe_ix (ixG K rfl) (pe_lst (pa_cons (pe_int) (pa_cons (pe_int) (pa_cons (pe_op (addG K rfl) (pe_int) (pe_fn O__law_take (hr.mono (by omega)) (by rfl) (pa_cons (pv 0) (pa_cons (pe_int) (pa_nil))))) (pa_nil))))) (pe_fn O__law_take (hr.mono (by omega)) (by rfl) (pa_cons (pv 0) (pa_cons (pe_int) (pa_nil)))) (fun _ _ => rfl))))
 (pss_nil))
 (pss_cons (ps_set (i := 3) sc__law_wnumber.nd rfl (Or.inl rfl) (pe_ifExp (pt_cmpR (eqG K rfl hr.units) (pv 2) (pe_int) (nomark _)) (pe_fn O__law_take (hr.mono (by omega)) (by rfl) (pa_cons (pv 0) (pa_cons (pe_int) (pa_nil)))) (pe_op (addG K rfl) (pe_int) (pe_fn O__law_take (hr.mono (by omega)) (by rfl) (pa_cons (pv 0) (pa_cons (pe_int) (pa_nil)))))))
 (pss_cons (ps_for PassesOwn.never rfl (pi_range1 (by rfl) T.z_range (pa_cons (pe_op op_sub (pv 2) (pe_int)) (pa_nil))) (pg_nameL (i := 4) sc__law_wnumber.nd rfl rfl)
 (pss_one (ps_set (i := 3) sc__law_wnumber.nd rfl (Or.inl rfl) (pe_op (addG K rfl) (pe_op mulG (pv 3) (pe_int)) (pe_fn O__law_take (hr.mono (by omega)) (by rfl) (pa_cons (pv 0) (pa_cons (pe_int) (pa_nil))))))))
 (pss_one (ps_ret (pe_op mulG (pv 3) (pe_ix (ixG K rfl) (pe_lst (pa_cons (pe_int) (pa_cons (pe_un un_neg (pe_int)) (pa_nil)))) (pe_fn O__law_take (hr.mono (by omega)) (by rfl) (pa_cons (pv 0) (pa_cons (pe_int) (pa_nil)))) (fun _ _ => rfl)))))))))),
 (simS_seq (simS_set 1 (nm rfl) (np rfl) (sim_callP (by simp) rfl (simA_cons (sim_int _) (simA_nil))))
 (simS_seq (simS_set 2 (nm rfl) (np rfl) (sim_op opA_add (sim_int _) (sim_op opA_fdiv (sim_var 1 (nm rfl)) (sim_int _))))
 (simS_cut (simS_if (simT_test (sim_op opA_eq (sim_var 1 (nm rfl)) (sim_int _)))
 (simS_set 2 (nm rfl) (np rfl) (opA_ix (sim_lst (by decide) (simA_cons (sim_int _) (simA_cons (sim_int _) (simA_cons (sim_op opA_add (sim_int _) (sim_callP (by simp) rfl (simA_cons (sim_int _) (simA_nil)))) (simA_nil))))) (sim_callP (by simp) rfl (simA_cons (sim_int _) (simA_nil)))))
 (simS_next))
 (simS_cut (simS_set 3 (nm rfl) (np rfl) (sim_if (simT_test (sim_op opA_eq (sim_var 2 (nm rfl)) (sim_int _))) (Sim.toE (sim_callP (by simp) rfl (simA_cons (sim_int _) (simA_nil)))) (Sim.toE (sim_op opA_add (sim_int _) (sim_callP (by simp) rfl (simA_cons (sim_int _) (simA_nil)))))))
 (simS_cut (simS_for (simI_range1 (sim_op opA_sub (sim_var 2 (nm rfl)) (sim_int _))) (simG_name 4 (nm rfl) (np rfl))
 (simS_set 3 (nm rfl) (np rfl) (sim_op opA_add (sim_op opA_mul (sim_var 3 (nm rfl)) (sim_int _)) (sim_callP (by simp) rfl (simA_cons (sim_int _) (simA_nil))))))
 (simS_ret (Sim.toE (sim_op opA_mul (sim_var 3 (nm rfl)) (opA_ix (sim_lst (by decide) (simA_cons (sim_int _) (simA_cons (sim_neg (sim_int _)) (simA_nil)))) (sim_callP (by simp) rfl (simA_cons (sim_int _) (simA_nil)))))))))))), ?_⟩
  intro ds m Q hl hF
  match ds, hl with
  | [], _ =>
  obtain ⟨hm, k⟩ := hF
  refine take_ok (by (first | omega | (dsimp only; omega) | (dsimp only at *; omega))) (by decide) (by decide) fun way w0 w1 => ?_
  refine ⟨⟨by decide, by decide⟩, ?_⟩
  refine ⟨fun s => ∃ (way size : Int) (m' : Nat), s = { δ := [none, some (.int way), some (.int size), none, none], n := m' } ∧ 1 ≤ size ∧ size ≤ 30 ∧ m' ≤ m + 4, ?_, ?_⟩
  · by_cases h5 : way = 5
    · refine ifp (decide_eq_true h5) (take_ok (by (first | omega | (dsimp only; omega) | (dsimp only at *; omega))) (by decide) (by decide) fun a a0 a1 => take_ok (by (first | omega | (dsimp only; omega) | (dsimp only at *; omega))) (by decide) (by decide) fun b b0 b1 => ?_)
      have : b = 0 ∨ b = 1 ∨ b = 2 := by (first | omega | (dsimp only; omega) | (dsimp only at *; omega))
      rcases this with rfl | rfl | rfl
      · exact ix_ok 0 rfl rfl ⟨_, _, _, rfl, by (first | omega | (dsimp only; omega) | (dsimp only at *; omega)), by (first | omega | (dsimp only; omega) | (dsimp only at *; omega)), by (first | omega | (dsimp only; omega) | (dsimp only at *; omega))⟩
      · exact ix_ok 1 rfl rfl ⟨_, _, _, rfl, by (first | omega | (dsimp only; omega) | (dsimp only at *; omega)), by (first | omega | (dsimp only; omega) | (dsimp only at *; omega)), by (first | omega | (dsimp only; omega) | (dsimp only at *; omega))⟩
      · exact ix_ok 2 rfl rfl ⟨_, _, _, rfl, by (first | omega | (dsimp only; omega) | (dsimp only at *; omega)), by (first | omega | (dsimp only; omega) | (dsimp only at *; omega)), by (first | omega | (dsimp only; omega) | (dsimp only at *; omega))⟩
    · exact ifn (by simpa using h5) ⟨_, _, _, rfl, by (first | omega | (dsimp only; omega) | (dsimp only at *; omega)), by (first | omega | (dsimp only; omega) | (dsimp only at *; omega)), by (first | omega | (dsimp only; omega) | (dsimp only at *; omega))⟩
  rintro s ⟨way, size, m1, rfl, s1, s2, s3⟩
  refine ⟨fun s => ∃ (num : Int) (m' : Nat), s = { δ := [none, some (.int way), some (.int size), some (.int num), none], n := m' } ∧ 0 ≤ num ∧ num < 10 ∧ m' ≤ m + 5, ?_, ?_⟩
  · by_cases hs : size = 1
    · exact ifp (decide_eq_true hs) (take_ok (by (first | omega | (dsimp only; omega) | (dsimp only at *; omega))) (by decide) (by decide) fun r r0 r1 => ⟨r, _, rfl, r0, r1, by (first | omega | (dsimp only; omega) | (dsimp only at *; omega))⟩)
    · exact ifn (by simpa using hs) (take_ok (by (first | omega | (dsimp only; omega) | (dsimp only at *; omega))) (by decide) (by decide) fun r r0 r1 => ⟨_, _, rfl, by (first | omega | (dsimp only; omega) | (dsimp only at *; omega)), by (first | omega | (dsimp only; omega) | (dsimp only at *; omega)), by (first | omega | (dsimp only; omega) | (dsimp only at *; omega))⟩)
  rintro s ⟨num, m2, rfl, n1, n2, n3⟩
  refine ⟨fun s => ∃ (num : Int) (m' : Nat) (kk : Option D), s = { δ := [none, some (.int way), some (.int size), some (.int num), kk], n := m' } ∧ 0 ≤ num ∧ num < ((10 ^ 30 : Nat) : Int) ∧ m' ≤ m + 40, ?_, ?_⟩
  · refine ⟨⟨by (first | omega | (dsimp only; omega) | (dsimp only at *; omega)), by (first | omega | (dsimp only; omega) | (dsimp only at *; omega))⟩, forD_ind (fun i s => ∃ (num : Int) (m' : Nat) (kk : Option D), s = { δ := [none, some (.int way), some (.int size), some (.int num), kk], n := m' } ∧ 0 ≤ num ∧ num < ((10 ^ (i + 1) : Nat) : Int) ∧ i ≤ 29 ∧ m' ≤ m + 5 + i) ⟨num, m2, none, rfl, n1, by simpa using n2, by (first | omega | (dsimp only; omega) | (dsimp only at *; omega)), n3⟩ ?_ ?_⟩
    · rintro i d s N hd ⟨num, m', kk, rfl, a0, a1, a2, a3⟩ hN
      obtain ⟨hi, rfl⟩ := rgD_get hd
      have hp : 10 ^ (i + 1) ≤ 10 ^ 30 := Nat.pow_le_pow_right (by decide) (by (first | omega | (dsimp only; omega) | (dsimp only at *; omega)))
      have hi' : i < 29 := by (first | omega | (dsimp only; omega) | (dsimp only at *; omega))
      refine ⟨mulOk (lt2000 (Nat.lt_trans (show num.natAbs < 10 ^ (i + 1) by (first | omega | (dsimp only; omega) | (dsimp only at *; omega))) (Nat.pow_lt_pow_right (by decide) (by (first | omega | (dsimp only; omega) | (dsimp only at *; omega)))))) (lt2000 (by decide)), take_ok (by (first | omega | (dsimp only; omega) | (dsimp only at *; omega))) (by decide) (by decide) fun r r0 r1 => hN _ ⟨_, _, _, rfl, by (first | omega | (dsimp only; omega) | (dsimp only at *; omega)), ?_, by (first | omega | (dsimp only; omega) | (dsimp only at *; omega)), by (first | omega | (dsimp only; omega) | (dsimp only at *; omega))⟩⟩
      rw [Nat.pow_succ]
      (first | omega | (dsimp only; omega) | (dsimp only at *; omega))
    · rintro s ⟨num, m', kk, rfl, a0, a1, a2, a3⟩
      refine ⟨num, m', kk, rfl, a0, ?_, by (first | omega | (dsimp only; omega) | (dsimp only at *; omega))⟩
      have hp : 10 ^ ((rgD 0 (size - 1).toNat).length + 1) ≤ 10 ^ 30 := Nat.pow_le_pow_right (by decide) (by rw [rgD_len]; (first | omega | (dsimp only; omega) | (dsimp only at *; omega)))
      (first | omega | (dsimp only; omega) | (dsimp only at *; omega))
  rintro s ⟨num, m3, kk, rfl, b1, b2, b3⟩
  refine take_ok (by (first | omega | (dsimp only; omega) | (dsimp only at *; omega))) (by decide) (by decide) fun r r0 r1 => ?_
  have hr : r = 0 ∨ r = 1 := by (first | omega | (dsimp only; omega) | (dsimp only at *; omega))
  have hn : num.natAbs < 10 ^ 40 := Nat.lt_trans (show num.natAbs < 10 ^ 30 by (first | omega | (dsimp only; omega) | (dsimp only at *; omega))) (by decide)
  rcases hr with rfl | rfl
  · exact ix_ok 0 rfl rfl ⟨mulOk (lt2000 hn) (lt2000 (by decide)), k _ _ (by (first | omega | (dsimp only; omega) | (dsimp only at *; omega))) (by (first | omega | (dsimp only; omega) | (dsimp only at *; omega)))⟩
  · exact ix_ok 1 rfl rfl ⟨mulOk (lt2000 hn) (lt2000 (by decide)), k _ _ (by (first | omega | (dsimp only; omega) | (dsimp only at *; omega))) (by (first | omega | (dsimp only; omega) | (dsimp only at *; omega)))⟩
end

def ones (cs : List Nat) : List D := cs.map fun c => .str ⟨#[c]⟩
theorem strs_ones : ∀ cs : List Nat, strsOf (ones cs) = some (cs.map fun c => ⟨#[c]⟩)
  | [] => rfl
  | c :: cs => by
    show (strsOf (ones cs)).map _ = _
    rw [strs_ones cs]
    rfl
theorem joinL_nil : ∀ xs : List (List Nat), joinL [] xs = xs.flatten
  | [] => rfl
  | [x] => by simp [joinL]
  | x :: y :: r => by
    show x ++ ([] ++ joinL [] (y :: r)) = _
    rw [joinL_nil (y :: r)]
    simp
theorem join_ones (cs : List Nat) : Txt.join (Str.ofString "") (cs.map fun c => ⟨#[c]⟩) = Sg cs := by
  have h := SX.join_S [] (cs.map fun c => [c])
  rw [List.map_map, joinL_nil] at h
  have e : ∀ cs : List Nat, (cs.map fun c => [c]).flatten = cs := by
    intro cs
    induction cs with
    | nil => rfl
    | cons c cs ih => rw [List.map_cons, List.flatten_cons, ih]; rfl
  rw [e] at h
  have e2 : (Str.ofString "") = SX.S [] := TL.ext_tl tl_e
  rw [e2]
  exact h
section
variable {P : Program} {w : World} {K : PySem.W.Frag} {mg : Str → Option Value} {base : Heap}
/-! ### shown -/
def showF : Nat → DF
  | 0 => fun _ _ => False
  | k + 1 => fun ds Q => match ds with
    | [d] => vd k d ∧ (sh d).length ≤ 1000000 ∧ Q (.str (Sg (sh d)))
    | _ => False
theorem tl_int (i : Int) : tl (Str.ofString (toString i)) = intL i := by
  unfold intL
  cases i with
  | ofNat n => rw [if_neg (by show ¬ ((n : Nat) : Int) < 0; (first | omega | (dsimp only; omega) | (dsimp only at *; omega)))]; exact TL.tl_num n
  | negSucc n =>
    rw [if_pos (by (first | omega | (dsimp only; omega) | (dsimp only at *; omega)))]
    have e : toString (Int.negSucc n) = "-" ++ toString ((n + 1 : Nat) : Int) := rfl
    rw [e, TL.tl_ofString, String.toList_append, List.map_append, ← TL.tl_ofString (toString ((n + 1 : Nat) : Int)), TL.tl_num]
    rfl
def strsL (ds : List D) : List D := (shL ds).map fun x => .str (Sg x)
theorem strs_L : ∀ xs : List (List Nat), strsOf (xs.map fun x => .str (Sg x)) = some (xs.map Sg)
  | [] => rfl
  | x :: xs => by
    show (strsOf (xs.map fun x => .str (Sg x))).map _ = _
    rw [strs_L xs]
    rfl
theorem joinL_len : ∀ xs : List (List Nat), (xs.map (·.length)).sum + xs.length ≤ (joinL [32] xs).length + 1
  | [] => by simp [joinL]
  | [x] => by simp [joinL]
  | x :: y :: r => by
    have := joinL_len (y :: r)
    show _ ≤ (x ++ ([32] ++ joinL [32] (y :: r))).length + 1
    rw [List.map_cons, List.sum_cons, List.length_cons, List.length_append, List.length_append, List.length_singleton]
    (first | omega | (dsimp only; omega) | (dsimp only at *; omega))
theorem len_mem : ∀ {ds : List D} {d : D}, d ∈ ds → (sh d).length + 2 ≤ (sh (.tuple ds)).length := by
  intro ds d m
  simp only [sh]
  rw [List.length_cons, List.length_append, List.length_singleton]
  have : ∀ {ds : List D} {d : D}, d ∈ ds → (sh d).length ≤ (joinL [32] (shL ds)).length := by
    intro ds
    induction ds with
    | nil => intro d m; cases m
    | cons e ds ih =>
      intro d m
      simp only [shL]
      rw [join_tail, List.length_append]
      rcases List.mem_cons.mp m with rfl | m
      · (first | omega | (dsimp only; omega) | (dsimp only at *; omega))
      · have h := ih m
        cases ds with
        | nil => cases m
        | cons e2 r =>
          simp only [shL] at h ⊢
          rw [join_tail, List.length_append] at h
          rw [tail_cons, List.length_cons, List.length_append]
          (first | omega | (dsimp only; omega) | (dsimp only at *; omega))
  have := this m
  (first | omega | (dsimp only; omega) | (dsimp only at *; omega))
theorem ok__law_wshow (T : Tx K mg) : ∀ k : Nat, Ok P w K mg base (k + 1) "_law_wshow" ["_law_thing"] (spN K 1 .E (showF k))
  | 0 => Ok.no T.d__law_wshow sc__law_wshow (spN_no fun ds Q h => h)
  | k + 1 => by
    have O__law_wshow : Ok P w K mg base (k + 1) "_law_wshow" ["_law_thing"] (spN K 1 .E (showF k)) := ok__law_wshow T k
    refine Ok.ofN (M := []) T.d__law_wshow sc__law_wshow rfl (by decide) fun f cdv A outer s H E hr => ⟨_, _, (pss_cons (ps_if (pt_val (pe_callB (isiK K rfl) (by rfl) T.z_isinstance boot_isi (pa_cons (pv 0) (pa_cons (pe_bltn (v := .ty "tuple") (by rfl) T.z_tuple boot_tuple rfl) pa_nil))))
 (pss_one (ps_ret (pe_op (addG K rfl) (pe_op (addG K rfl) (pe_str) (joinK K rfl (pe_str) (pe_lc (own := [("_law_part", 1)]) rfl sc__law_wshow.nd (piT K rfl (pv 0)) (blkOk_by (own := [("_law_part", 1)]) (N := ["_law_thing", "_law_part"]) (sc := defScope s__law_wshow) (by decide +kernel)) (fun _ _ _ _ _ => pg_nameL (i := 1) sc__law_wshow.nd rfl rfl) (fun _ _ _ _ _ => pts_nil) (fun _ _ _ _ _ => pe_fn O__law_wshow (hr.mono (by omega)) (by rfl) (pa_cons (pv 1) (pa_nil)))))) (pe_str))))
 (pss_nil))
 (pss_one (ps_ret (pe_ifExp (pt_val (pe_callB (isiK K rfl) (by rfl) T.z_isinstance boot_isi (pa_cons (pv 0) (pa_cons (pe_bltn (v := .ty "str") (by rfl) T.z_str boot_str rfl) pa_nil)))) (pv 0) (pe_callTy strG (by rfl) T.z_str boot_str (pa_cons (pv 0) (pa_nil))))))),
 (simS_seq (simS_if (simT_B (sim_isi .tuple (sim_var 0 (nm rfl))))
 (simS_ret (Sim.toE (sim_op opA_add (sim_op opA_add (sim_str _) (sim_join (sim_str _) (sim_lc (simI_tup (sim_var 0 (nm rfl))) (simG_name 1 (nm rfl) (np rfl)) (simT_yes) (sim_call (simA_cons (sim_var 1 (nm rfl)) (simA_nil))) (inv' rfl) (nmv rfl) (npv rfl)))) (sim_str _))))
 (simS_next))
 (simS_ret (Sim.toE (sim_if (simT_B (sim_isi .str (sim_var 0 (nm rfl)))) (Sim.toE (sim_var 0 (nm rfl))) (Sim.toE (sim_cb caA_strG (simA_cons (sim_var 0 (nm rfl)) (simA_nil)))))))), ?_⟩
    intro ds Q hl hF
    match ds, hl, hF with
    | [a], _, hF =>
    obtain ⟨hv, hz, q⟩ := hF
    cases a with
    | none => cases k <;> exact hv.elim
    | bool x => cases k <;> exact hv.elim
    | list x => cases k <;> exact hv.elim
    | dict x => cases k <;> exact hv.elim
    | str x =>
      have e : (Sg (sh (.str x)) : Str) = x := by simp only [sh]
      rw [e] at q
      exact q
    | int i =>
      have hv : i.natAbs < 10 ^ 30 := by cases k <;> exact hv
      have e : (Sg (sh (.int i)) : Str) = Str.ofString (toString i) := by simp only [sh]; exact TL.ext_tl (tl_int i).symm
      rw [e] at q
      exact ⟨log_lt (Nat.lt_of_lt_of_le hv (by decide +kernel)) (by decide), q⟩
    | tuple xs =>
      cases k with
      | zero => exact hv.elim
      | succ k =>
      have hv : ∀ d ∈ xs, vd k d := hv
      have few := few_parts xs
      refine ⟨small_big (by (first | omega | (dsimp only; omega) | (dsimp only at *; omega))), lcD_ind (fun i acc s => acc = (shL (xs.take i)).map (fun x => .str (Sg x)) ∧ s = { δ := [some (.tuple xs), none], n := 0 }) ⟨by simp [shL], rfl⟩ ?_ ?_⟩
      · rintro i d acc s N hi ⟨rfl, rfl⟩ hN
        have m := List.mem_of_getElem? hi
        have hl := len_mem m
        refine ⟨hv d m, by (first | omega | (dsimp only; omega) | (dsimp only at *; omega)), hN _ _ ⟨?_, rfl⟩⟩
        rw [List.take_add_one, hi, shL_app, List.map_append]
        simp [shL]
      · rintro acc s ⟨rfl, rfl⟩
        rw [List.take_length]
        have hjl : (joinL [32] (shL xs)).length + 2 = (sh (.tuple xs)).length := by simp only [sh]; simp
        refine ⟨_, strs_L _, ?_, ?_⟩
        · have e : ((shL xs).map Sg).map (·.length) = (shL xs).map (·.length) := SX.lens _
          rw [e, List.length_map, TL.len_tl, tl_sp]
          have := joinL_len (shL xs)
          show _ + (shL xs).length * 1 ≤ 16777216
          (first | omega | (dsimp only; omega) | (dsimp only at *; omega))
        · have e : Txt.join (Str.ofString " ") ((shL xs).map Sg) = Sg (joinL [32] (shL xs)) := by
            rw [show Str.ofString " " = SX.S [32] from TL.ext_tl tl_sp]
            exact SX.join_S [32] (shL xs)
          rw [e]
          refine ⟨?_, ?_, ?_⟩
          · rw [TL.len_tl, TL.len_tl, tl_lp]; refine small_big ?_; show 1 + (joinL [32] (shL xs)).length ≤ 2000000; (first | omega | (dsimp only; omega) | (dsimp only at *; omega))
          · rw [TL.len_tl, TL.len_tl, tl_rp, TL.tl_append, tl_lp, List.length_append]; refine small_big ?_; show 1 + (joinL [32] (shL xs)).length + 1 ≤ 2000000; (first | omega | (dsimp only; omega) | (dsimp only at *; omega))
          · have e : (Sg (sh (.tuple xs)) : Str) = Str.ofString "(" ++ Sg (joinL [32] (shL xs)) ++ Str.ofString ")" := by
              refine TL.ext_tl ?_
              rw [TL.tl_append, TL.tl_append, tl_lp, tl_rp]
              simp only [sh]
              simp
            rw [e] at q
            exact q
end

theorem intL_len {i : Int} (h : i.natAbs < 10 ^ 30) : (intL i).length ≤ 31 := by
  have := TL.numL_len (n := i.natAbs) (k := 30) (by decide) h
  unfold intL
  split
  · rw [List.length_cons]; (first | omega | (dsimp only; omega) | (dsimp only at *; omega))
  · (first | omega | (dsimp only; omega) | (dsimp only at *; omega))
theorem tup_len {ds : List D} {b : Nat} (h : ∀ d ∈ ds, (sh d).length ≤ b) : (sh (.tuple ds)).length ≤ 2 + ds.length * (b + 1) := by
  have : ∀ {ds : List D}, (∀ d ∈ ds, (sh d).length ≤ b) → (joinL [32] (shL ds)).length ≤ ds.length * (b + 1) := by
    intro ds
    induction ds with
    | nil => intro _; simp [shL, joinL]
    | cons e ds ih =>
      intro h
      have h1 := h e (List.mem_cons_self ..)
      have h2 := ih fun d m => h d (List.mem_cons_of_mem _ m)
      simp only [shL]
      rw [join_tail, List.length_append, List.length_cons, Nat.succ_mul]
      cases ds with
      | nil => simp [shL, tailL]; (first | omega | (dsimp only; omega) | (dsimp only at *; omega))
      | cons e2 r =>
        simp only [shL] at h2 ⊢
        rw [join_tail, List.length_append] at h2
        rw [tail_cons, List.length_cons, List.length_append]
        (first | omega | (dsimp only; omega) | (dsimp only at *; omega))
  have := this h
  simp only [sh]
  rw [List.length_cons, List.length_append, List.length_singleton]
  (first | omega | (dsimp only; omega) | (dsimp only at *; omega))
theorem vd_word {j : Nat} {x : Str} (h : word x) : vd j (.str x) := by cases j <;> exact h
theorem vd_int {j : Nat} {i : Int} (h : i.natAbs < 10 ^ 30) : vd j (.int i) := by cases j <;> exact h
theorem len_word {x : Str} (h : word x) : (sh (.str x)).length ≤ 8 := by
  have := h.2.1
  rw [TL.len_tl] at this
  simp only [sh]
  exact this

/-! ### NoWriting raised -/
section
variable {P : Program} {w : World} {K : PySem.W.Frag} {mg : Str → Option Value} {base : Heap}
theorem ok_xi {CW CB fI : Addr} {fd : FuncData} (T : XC K mg CW CB fI "NoWriting" "WorkError" "place") (F : Fun K "__init__" "NoWriting.__init__" s_NoWriting___init__ fI fd) : FnOk P w K mg base CX0 1 fI fd ["self", "place"] (spXi CW "place") := by
  refine Fun.ok F sc_NoWriting___init__ (fun vs H Q E h => ?_) (fun cdv A outer s H vs Q E hr h => ?_)
  · obtain ⟨a, v, rfl, _⟩ := h; rfl
  obtain ⟨a, v, rfl, hH, q⟩ := h
  refine ⟨_, pss_cons (ps_expr (pe_binit T (by rfl) (pa_cons (pv 0) (pa_cons pe_str pa_nil)))) (pss_one (ps_ost (pv 0) (pv 1))), ?_⟩
  refine ⟨_, rfl, a, CW, _, rfl, by decide, T.ox, hH, _, rfl, _, rfl, a, CW, rfl, T.ox, T.nof, .inl ⟨hH, fun dx n ne => q dx n ne⟩⟩
end
theorem rz_in {CW : Addr} {v : V} {H1 : Hp} {W : WX} {σ : L2.St} (h : ∀ d H', H1 d = none → Same H1 H' → H' d = some (.xd [(("place" : Str), v)]) → W (.ref CW) (some d) σ H') :
    [v].length ≤ 1000 ∧ ∀ a, H1 a = none → spXi CW "place" (.ref a :: ([v] ++ [])) (upd H1 a (exo a CW none)) (fun u H2 => u = .non ∧ ∃ (d : Addr) (fs : List (Str × V)), H2 a = some (exo a CW (some d)) ∧ H2 d = some (exd d fs) ∧ H1 d = none ∧ W (.ref CW) (some d) σ (upd (del H2 a) d (.xd fs))) (fun _ _ _ => False) := by
  refine ⟨by simp, fun a ha => ⟨a, v, rfl, upd_same, fun dx n ne => ⟨rfl, dx, [(("place" : Str), v)], upd_same, ?_, ?_⟩⟩⟩
  · rw [upd_ne ne, upd_same]
  · obtain ⟨h1, h2⟩ := xi_raise (C := CW) (f := "place") (v := v) ha n ne
    exact ⟨h1, h dx _ h1 h2 upd_same⟩
def Bad (CW p : Addr) (H : Hp) (n : Nat) (E : XK) : Prop := ∀ d H', But p H H' → H' d = some (.xd [(("place" : Str), .int (n : Nat))]) → E (.ref CW) (some d) H'
theorem Bad.later {CW p : Addr} {H H1 : Hp} {n : Nat} {E : XK} (h : Bad CW p H n E) (b : But p H H1) : Bad CW p H1 n E := fun d H' b' e => h d H' (b.trans b') e
/-! ### what is read of a row of signs -/
def small (c : Nat) : Prop := 97 ≤ c ∧ c ≤ 122
def dig (c : Nat) : Prop := 48 ≤ c ∧ c ≤ 57
inductive Out where
  | ok (x : D) (n : Nat)
  | no (n : Nat)
def Out.up (k : Nat) : Out → Out
  | .ok x n => .ok x (k + n)
  | .no n => .no (k + n)
mutual
inductive PA' : Nat → List Nat → Out → Prop
  | word {d : Nat} {u r : List Nat} (h1 : 1 ≤ u.length) (h2 : u.length ≤ 8) (h3 : ∀ c ∈ u, small c) (h4 : u.length = 8 ∨ ∀ c, r.head? = some c → ¬ small c) : PA' d (u ++ r) (.ok (.str (Sg u)) u.length)
  | num {d : Nat} {n : Int} {r : List Nat} (h1 : n.natAbs < 10 ^ 30) (h2 : n = 0 ∨ (numL n.natAbs).length = 30 ∨ ∀ c, r.head? = some c → ¬ dig c) : PA' d (intL n ++ r) (.ok (.int n) (intL n).length)
  | minus {d : Nat} {r : List Nat} (h : ∀ c, r.head? = some c → ¬ (49 ≤ c ∧ c ≤ 57)) : PA' d (45 :: r) (.no 1)
  | br {d : Nat} {L : List Nat} {o : Out} (h : ∀ c, L.head? = some c → ¬ small c ∧ ¬ dig c ∧ c ≠ 45) (b : PB' d L o) : PA' d L o
inductive PB' : Nat → List Nat → Out → Prop
  | no {d : Nat} {L : List Nat} (h : L.head? ≠ some 40 ∨ d = 40) : PB' d L (.no 0)
  | nil {d : Nat} {r : List Nat} (h : d < 40) : PB' d (40 :: 41 :: r) (.ok (.tuple []) 2)
  | bad {d n : Nat} {r : List Nat} (h : d < 40) (h1 : r.head? ≠ some 41) (a : PA' (d + 1) r (.no n)) : PB' d (40 :: r) (.no (1 + n))
  | go {d n : Nat} {r : List Nat} {x : D} {o : Out} (h : d < 40) (h1 : r.head? ≠ some 41) (a : PA' (d + 1) r (.ok x n)) (l : LR' (d + 1) [x] (r.drop n) o) : PB' d (40 :: r) (o.up (1 + n))
inductive LR' : Nat → List D → List Nat → Out → Prop
  | fin {d : Nat} {acc : List D} {r : List Nat} : LR' d acc (41 :: r) (.ok (.tuple acc) 1)
  | no {d : Nat} {acc : List D} {L : List Nat} (h : L.head? ≠ some 41) (h' : L.head? ≠ some 32) : LR' d acc L (.no 0)
  | bad {d n : Nat} {acc : List D} {r : List Nat} (a : PA' d r (.no n)) : LR' d acc (32 :: r) (.no (1 + n))
  | go {d n : Nat} {acc : List D} {r : List Nat} {x : D} {o : Out} (a : PA' d r (.ok x n)) (l : LR' d (acc ++ [x]) (r.drop n) o) : LR' d acc (32 :: r) (o.up (1 + n))
end
/-- what is wanted of an outcome, from the place i on -/
def Get (B : Nat → Prop) (G : D → Nat → Prop) (i : Nat) : Out → Prop
  | .ok x n => G x (i + n)
  | .no n => B (i + n)
theorem Get.up {B : Nat → Prop} {G : D → Nat → Prop} {i k : Nat} {o : Out} (h : Get B G i (o.up k)) : Get B G (i + k) o := by
  cases o with
  | ok x n =>
    have h : G x (i + (k + n)) := h
    rw [← Nat.add_assoc] at h
    exact h
  | no n =>
    have h : B (i + (k + n)) := h
    rw [← Nat.add_assoc] at h
    exact h
def spNeedX (C CW : Addr) : Sp := fun vs H Q E => ∃ (p : Addr) (z y : Str) (i d : Nat), vs = [.ref p, .str y] ∧ Scr C H p z i d ∧ z.length ≤ sizeLine ∧
  ((∃ (c : Nat) (r : List Nat), (tl z).drop i = c :: r ∧ c ∈ tl y ∧ ∀ H', But p H H' → Scr C H' p z (i + 1) d → Q (.str (Sg [c])) H') ∨ ((∀ c, ((tl z).drop i).head? = some c → c ∉ tl y) ∧ Bad CW p H i E))
def spNumX (C CW : Addr) : Sp := fun vs H Q E => ∃ (p : Addr) (z : Str) (i d : Nat), vs = [.ref p] ∧ Scr C H p z i d ∧ z.length ≤ sizeLine ∧
  ((∃ (n : Int) (r : List Nat), (tl z).drop i = intL n ++ r ∧ n.natAbs < 10 ^ 30 ∧ (n = 0 ∨ (numL n.natAbs).length = 30 ∨ ∀ c, r.head? = some c → ¬ dig c) ∧ ∀ H', But p H H' → Scr C H' p z (i + (intL n).length) d → Q (.int n) H') ∨
    ∃ r : List Nat, (tl z).drop i = 45 :: r ∧ (∀ c, r.head? = some c → ¬ (49 ≤ c ∧ c ≤ 57)) ∧ Bad CW p H (i + 1) E)
section
variable {P : Program} {w : World} {K : PySem.W.Frag} {mg : Str → Option Value} {base : Heap} {C CW CB fI : Addr}
theorem sg_take (L : List Nat) : (L = [] ∧ (Sg (L.take 1) : Str) = Str.ofString "") ∨ ∃ c r, L = c :: r ∧ (Sg (L.take 1) : Str) = ⟨#[c]⟩ := by
  cases L with
  | nil => exact .inl ⟨rfl, TL.ext_tl tl_e.symm⟩
  | cons c r => exact .inr ⟨c, r, rfl, rfl⟩
theorem ok_needX (B : C_Scribe K mg C) (TX : X_NoWriting K mg CW CB fI) : OkMX P w K mg base C 3 "need_sign" ["self", "some"] (spNeedX C CW) := by
  have O1 : OkM P w K mg base C 1 "sign_ahead" ["self"] (spAhead C) := ok_ahead B
  obtain ⟨fd, FI, bI⟩ := TX.f
  have F1 := ok_xi (P := P) (w := w) (base := base) TX.c FI
  refine OkMX.mk B.m_need_sign sc_Scribe_need_sign (fun vs H Q E h => ?_) (fun f cdv A outer s H vs Q E hr h => ?_)
  · obtain ⟨p, z, y, i, d, rfl, _⟩ := h; rfl
  · obtain ⟨p, z, y, i, d, rfl, ⟨dx, hp⟩, hz, h⟩ := h
    refine ⟨_, pss_cons (ps_set (i := 2) sc_Scribe_need_sign.nd rfl (Or.inl rfl) (pe_mth0 (pv 0) B.k.cl O1 (hr.mono (by omega))))
      (pss_cons (ps_if (PW.pt (pw_or (pt_cmpR (eqG K rfl hr.units) (pv 2) pe_str (nomark _)) (pw_or1 (pt_cmpR op_notin_str (pv 2) (pv 1) (by rfl))))) (pss_one (ps_raise rfl (takes_of rfl rfl rfl rfl) (pmk_oex TX.c.ox TX.c.iC TX.c.tI F1 (hr.toRoom.mono (by omega)) bI .nil pass0 (by rfl) TX.c.g (pa_cons (pe_fld (pv 0) rfl) pa_nil)))) pss_nil)
      (pss_cons (ps_fldaug (pv 0) pe_int in_add) (pss_one (ps_ret (pv 2))))), ?_⟩
    refine ⟨_, rfl, p, dx, _, rfl, hp, scF_no _ _ _ (by decide +kernel) (by decide +kernel) (by decide +kernel), p, z, i, d, rfl, ⟨dx, hp⟩, hz, ?_⟩
    rcases sg_take ((tl z).drop i) with ⟨e0, es⟩ | ⟨c, r, e0, es⟩
    · rw [es]
      rcases h with ⟨c, r, hd, _⟩ | ⟨_, hb⟩
      · rw [e0] at hd; cases hd
      refine ⟨_, rfl, .inl ⟨rfl, _, rfl, ?_⟩⟩
      exact ifp (decide_eq_true rfl) (ifp rfl ⟨_, rfl, p, C, dx, _, _, rfl, hp, B.k.cl, B.n_spot, scF_sp _ _ _, rz_in (σ := []) (W := fun cls d _ H => E cls d H) fun d' H' _ sm e => hb d' H' (But.of sm) e⟩)
    · rw [es]
      refine ⟨_, rfl, .inl ⟨rfl, _, rfl, ?_⟩⟩
      refine ifn (sg_no (c := c) (r := []) (by rw [tl_e]; exact fun z => nomatch z)) ⟨_, rfl, _, rfl, _, _, rfl, rfl, _, rfl, ?_⟩
      rw [StrLaws.found_one]
      rcases h with ⟨c', r', hd, hc, k⟩ | ⟨hn, hb⟩
      · rw [e0] at hd
        cases hd
        refine ifn (by simpa using hc) ?_
        refine ⟨_, rfl, p, C, dx, _, _, rfl, hp, B.k.cl, B.n_spot, scF_sp _ _ _, _, _, rfl, rfl, dx, _, hp, scF_len _ _ _, _, rfl, ?_⟩
        exact k _ But.upd ⟨dx, by rw [upd_same, scF_psp z i d _ (i + 1) (by omega)]⟩
      · have hc := hn c (by rw [e0]; rfl)
        exact ifp (by simpa using hc) ⟨_, rfl, p, C, dx, _, _, rfl, hp, B.k.cl, B.n_spot, scF_sp _ _ _, rz_in (σ := []) (W := fun cls d _ H => E cls d H) fun d' H' _ sm e => hb d' H' (But.of sm) e⟩
theorem ok_numX (T : Tx K mg) (B : C_Scribe K mg C) (TX : X_NoWriting K mg CW CB fI) : OkMX P w K mg base C 4 "whole_number" ["self"] (spNumX C CW) := by
  have O1 : OkM P w K mg base C 1 "sign_ahead" ["self"] (spAhead C) := ok_ahead B
  have O2 : OkMX P w K mg base C 3 "need_sign" ["self", "some"] (spNeedX C CW) := ok_needX B TX
  have O3 : OkM P w K mg base C 1 "run_of" ["self", "some", "most"] (spRun C) := ok_run T B
  refine OkMX.mk B.m_whole_number sc_Scribe_whole_number (fun vs H Q E h => ?_) (fun f cdv A outer s H vs Q E hr h => ?_)
  · obtain ⟨p, z, i, d, rfl, _⟩ := h; rfl
  · obtain ⟨p, z, i, d, rfl, ⟨dx, hp⟩, hz, hh⟩ := h
    have nA : ∀ z i d, (scF z i d).lookup ("sign_ahead" : Str) = none := fun z i d => scF_no _ _ _ (by decide +kernel) (by decide +kernel) (by decide +kernel)
    have nN : ∀ z i d, (scF z i d).lookup ("need_sign" : Str) = none := fun z i d => scF_no _ _ _ (by decide +kernel) (by decide +kernel) (by decide +kernel)
    have nR : ∀ z i d, (scF z i d).lookup ("run_of" : Str) = none := fun z i d => scF_no _ _ _ (by decide +kernel) (by decide +kernel) (by decide +kernel)
    refine ⟨_, pss_cons (ps_if (pt_cmpR (eqG K rfl hr.units) (pe_mth0 (pv 0) B.k.cl O1 (hr.mono (by omega))) pe_str (nomark _)) (pss_cons (ps_fldaug (pv 0) pe_int in_add) (pss_one (ps_ret pe_int))) pss_nil)
      (pss_cons (ps_set (i := 1) sc_Scribe_whole_number.nd rfl (Or.inl rfl) (pe_cmpR (eqG K rfl hr.units) (pe_mth0 (pv 0) B.k.cl O1 (hr.mono (by omega))) pe_str (nomark _)))
      (pss_cons (ps_fldaug (pv 0) (pe_callTy call_int1 (by rfl) T.z_int boot_int (pa_cons (pv 1) pa_nil)) in_add)
      (pss_cons (ps_set (i := 2) sc_Scribe_whole_number.nd rfl (Or.inl rfl) (pe_mthX (pv 0) B.k.cl O2 (hr.toRoom.mono (by omega)) hr.gd (takes_of rfl rfl rfl rfl) (pa_cons (pe_slice sl_str (pe_gv (by rfl) T.g_FIGURES) (po_some pe_int) po_none) pa_nil)))
      (pss_cons (ps_set (i := 3) sc_Scribe_whole_number.nd rfl (Or.inl rfl) (pe_callTy call_int_str (by rfl) T.z_int boot_int (pa_cons (pe_op op_add_str (pv 2) (pe_mth (pv 0) B.k.cl O3 (hr.mono (by omega)) (pa_cons (pe_gv (by rfl) T.g_FIGURES) (pa_cons (pe_op op_sub (pe_gv (by rfl) T.g_MOST_FIGURES) pe_int) pa_nil)))) pa_nil)))
      (pss_one (ps_ret (pe_ifExp (pt_val (pv 1)) (pe_un un_neg (pv 3)) (pv 3)))))))), ?_⟩
    rcases hh with ⟨n, r, hd, hn, hst, k⟩ | ⟨r, hd, hrn, hbad⟩
    rotate_left
    · -- a minus, no figure behind it
      refine ⟨_, rfl, p, dx, _, rfl, hp, nA _ _ _, p, z, i, d, rfl, ⟨dx, hp⟩, hz, ?_⟩
      rw [hd]
      refine .inl ⟨rfl, _, rfl, ifn (sg_no (by rw [tl_0]; intro z; injection z with z1 z2; omega)) ?_⟩
      refine ⟨_, rfl, p, dx, _, rfl, hp, nA _ _ _, p, z, i, d, rfl, ⟨dx, hp⟩, hz, ?_⟩
      rw [hd]
      refine .inl ⟨rfl, ?_⟩
      rw [show decide (V.str (Sg (List.take 1 (45 :: r))) = V.str (Str.ofString "-")) = true from sg_yes tl_m]
      refine ⟨_, rfl, p, C, dx, _, _, rfl, hp, B.k.cl, B.n_spot, scF_sp _ _ _, _, rfl, .inr ⟨true, rfl, _, _, rfl, rfl, dx, _, hp, scF_len _ _ _, ?_⟩⟩
      have s1 : Scr C (L2.upd H p (.ins C dx (putF "spot" (V.int ((i : Int) + if true = true then 1 else 0)) (scF z i d)))) p z (i + 1) d := ⟨dx, by rw [upd_same, scF_psp z i d _ (i + 1)]; simp⟩
      have b1 : But p H (L2.upd H p (.ins C dx (putF "spot" (V.int ((i : Int) + if true = true then 1 else 0)) (scF z i d)))) := But.upd
      generalize (L2.upd H p (.ins C dx (putF "spot" (V.int ((i : Int) + if true = true then 1 else 0)) (scF z i d)))) = H1 at s1 b1
      obtain ⟨dx1, hp1⟩ := s1
      have hd2 : (tl z).drop (i + 1) = r := drop_more (u := [45]) hd
      refine ⟨_, rfl, p, dx1, _, rfl, hp1, nN _ _ _, _, rfl, _, rfl, by decide +kernel, p, z, _, i + 1, d, rfl, ⟨dx1, hp1⟩, hz, .inr ⟨fun c hc => ?_, hbad.later b1⟩⟩
      rw [hd2] at hc
      have := hrn c hc
      rw [cut_fig]
      simp only [List.mem_cons, List.not_mem_nil, or_false]
      omega
    refine ⟨_, rfl, p, dx, _, rfl, hp, nA _ _ _, p, z, i, d, rfl, ⟨dx, hp⟩, hz, ?_⟩
    rw [hd]
    by_cases n0 : n = 0
    · subst n0
      have e0 : intL 0 = [48] := by decide +kernel
      rw [e0] at k ⊢
      refine .inl ⟨rfl, _, rfl, ifp (sg_yes tl_0) ?_⟩
      refine ⟨_, rfl, p, C, dx, _, _, rfl, hp, B.k.cl, B.n_spot, scF_sp _ _ _, _, _, rfl, rfl, dx, _, hp, scF_len _ _ _, ?_⟩
      exact k _ But.upd ⟨dx, by rw [upd_same, scF_psp z i d _ (i + 1) (by omega)]; rfl⟩
    · obtain ⟨f, u, ef, f1, f2⟩ := num_cons n.natAbs (by omega)
      have hul : u.length ≤ 29 := by
        have := TL.numL_len (n := n.natAbs) (k := 30) (by decide) hn
        rw [ef, List.length_cons] at this
        omega
      have hst' : u.length = 29 ∨ ∀ c, r.head? = some c → c ∉ tl (Str.ofString "0123456789") := by
        rcases hst with h | h | h
        · exact absurd h n0
        · refine .inl ?_
          rw [ef, List.length_cons] at h
          omega
        · exact .inr fun c e => by rw [mem_fig]; exact h c e
      have hud : ∀ c ∈ u, 48 ≤ c ∧ c ≤ 57 := fun c m => TL.numL_digits n.natAbs c (by rw [ef]; exact List.mem_cons_of_mem _ m)
      -- the rest, from the spot of the first figure on
      obtain ⟨t, g, et, eg, ez⟩ : ∃ (t : Bool) (g : Nat), intL n = (if t = true then [45] else []) ++ f :: u ∧ (g = if t = true then 1 else 0) ∧ (t = true ↔ n < 0) := by
        unfold intL
        by_cases hneg : n < 0
        · exact ⟨true, 1, by rw [if_pos hneg, ef]; rfl, rfl, by simp [hneg]⟩
        · exact ⟨false, 0, by rw [if_neg hneg, ef]; rfl, rfl, by simp [hneg]⟩
      have hh : ∃ c q, intL n ++ r = c :: q ∧ c ≠ 48 ∧ (decide (V.str (Sg (List.take 1 (c :: q))) = V.str (Str.ofString "-")) = t) := by
        rw [et]
        cases t with
        | true => exact ⟨45, _, rfl, by decide, sg_yes tl_m⟩
        | false =>
          refine ⟨f, _, rfl, by omega, Bool.eq_false_iff.mpr ?_⟩
          exact sg_no (by rw [tl_m]; intro z; injection z with z1 z2; omega)
      obtain ⟨c, q, e1, e2, e3⟩ := hh
      rw [e1]
      refine .inl ⟨rfl, _, rfl, ifn (sg_no (by rw [tl_0]; intro z; injection z with z1 z2; omega)) ?_⟩
      refine ⟨_, rfl, p, dx, _, rfl, hp, nA _ _ _, p, z, i, d, rfl, ⟨dx, hp⟩, hz, ?_⟩
      rw [hd, e1]
      refine .inl ⟨rfl, ?_⟩
      rw [e3]
      refine ⟨_, rfl, p, C, dx, _, _, rfl, hp, B.k.cl, B.n_spot, scF_sp _ _ _, _, rfl, .inr ⟨t, rfl, _, _, rfl, rfl, dx, _, hp, scF_len _ _ _, ?_⟩⟩
      have hd2 : (tl z).drop (i + g) = f :: u ++ r := by
        have : g = (if t = true then [45] else [] : List Nat).length := by rw [eg]; cases t <;> rfl
        rw [this]
        apply drop_more
        rw [hd, et, List.append_assoc]
      have s1 : Scr C (L2.upd H p (.ins C dx (putF "spot" (V.int ((i : Int) + if t = true then 1 else 0)) (scF z i d)))) p z (i + g) d := ⟨dx, by
        rw [upd_same, scF_psp z i d _ (i + g)]
        rw [eg]; cases t <;> simp⟩
      have b1 : But p H (L2.upd H p (.ins C dx (putF "spot" (V.int ((i : Int) + if t = true then 1 else 0)) (scF z i d)))) := But.upd
      generalize (L2.upd H p (.ins C dx (putF "spot" (V.int ((i : Int) + if t = true then 1 else 0)) (scF z i d)))) = H1 at s1 b1
      obtain ⟨dx1, hp1⟩ := s1
      refine ⟨_, rfl, p, dx1, _, rfl, hp1, nN _ _ _, _, rfl, _, rfl, by decide +kernel, p, z, _, i + g, d, rfl, ⟨dx1, hp1⟩, hz, .inl ⟨f, u ++ r, hd2, ?_, fun H2 b2 s2 => ?_⟩⟩
      · rw [cut_fig]
        simp only [List.mem_cons, List.not_mem_nil, or_false]
        omega
      obtain ⟨dx2, hp2⟩ := s2
      have hd3 : (tl z).drop (i + g + 1) = u ++ r := drop_more (u := [f]) hd2
      refine ⟨_, rfl, _, rfl, p, dx2, _, rfl, hp2, nR _ _ _, _, _, rfl, rfl, p, z, _, i + g + 1, d, 29, u, r, rfl, ⟨dx2, hp2⟩, hz, ?_, hd3, fun c m => mem_fig.mpr (hud c m), hul, hst', fun H3 b3 s3 => ?_⟩
      · have := lt_of_drop (i := i + g) (l := tl z) hd2
        omega
      · refine ⟨_, _, rfl, rfl, ?_, ?_⟩
        · show 1 + (Sg u).length ≤ sizeLine
          refine small_line ?_
          rw [TL.len_tl]
          show 1 + u.length ≤ 1000
          omega
        · have en : Sg [f] ++ Sg u = Sg (numL n.natAbs) := by rw [ef]; exact SX.S_cat [f] u
          rw [en]
          refine ⟨_, ((n.natAbs : Nat) : Int), rfl, ?_, ?_, ?_⟩
          · have := SX.int_S (a := numL n.natAbs) (List.all_eq_true.mpr fun c m => by have := TL.numL_digits n.natAbs c m; simp; omega) (TL.numL_ne _) (by have := TL.numL_len (n := n.natAbs) (k := 30) (by decide) hn; omega)
            rw [TL.numL_val] at this
            exact this
          · rw [TL.len_tl]; have := TL.numL_len (n := n.natAbs) (k := 30) (by decide) hn; show (numL n.natAbs).length ≤ 640; omega
          · have hlen : i + g + 1 + u.length = i + (intL n).length := by rw [et, eg]; cases t <;> simp <;> omega
            rw [hlen] at s3
            refine ⟨_, rfl, t, rfl, ?_⟩
            have kk := k H3 (b1.trans (b2.trans b3)) s3
            cases t with
            | true =>
              refine ifp rfl ⟨_, rfl, _, rfl, ?_⟩
              show Q (V.int (-((n.natAbs : Nat) : Int))) H3
              rw [show -((n.natAbs : Nat) : Int) = n by have := ez.mp rfl; omega]
              exact kk
            | false =>
              refine ifn Bool.false_ne_true ⟨_, rfl, ?_⟩
              show Q (V.int ((n.natAbs : Nat) : Int)) H3
              rw [show ((n.natAbs : Nat) : Int) = n by have : ¬ n < 0 := fun z => absurd (ez.mpr z) Bool.false_ne_true; omega]
              exact kk

end

/-! ### what a read part is -/
def OkO (d : Nat) (L : List Nat) : Out → Prop
  | .ok x n => vd (40 - d) x ∧ L = sh x ++ L.drop n ∧ (sh x).length = n
  | .no _ => True
def OkB (d : Nat) (L : List Nat) : Out → Prop
  | .ok x n => (∃ ds, x = .tuple ds) ∧ vd (40 - d) x ∧ L = sh x ++ L.drop n ∧ (sh x).length = n
  | .no _ => True
/-- behind some parts: what is more, up to the bracket's end -/
def OkL (d : Nat) (acc : List D) (L : List Nat) : Out → Prop
  | .ok x n => ∃ more, x = .tuple (acc ++ more) ∧ (∀ e ∈ more, vd (40 - d) e) ∧ L = tailL (shL more) ++ 41 :: L.drop n ∧ (tailL (shL more)).length + 1 = n
  | .no _ => True
theorem sg_word {u : List Nat} (h1 : 1 ≤ u.length) (h2 : u.length ≤ 8) (h3 : ∀ c ∈ u, small c) : word (Sg u) := ⟨by rw [TL.len_tl]; exact h1, by rw [TL.len_tl]; exact h2, h3⟩
mutual
theorem pa_ok : ∀ {d : Nat} {L : List Nat} {o : Out}, PA' d L o → d ≤ 40 → OkO d L o
  | d, _, _, .word (u := u) (r := r) h1 h2 h3 h4, _ => by
    refine ⟨vd_word (sg_word h1 h2 h3), ?_, ?_⟩
    · rw [List.drop_left]; simp only [sh]
    · simp only [sh]
  | d, _, _, .num (n := n) (r := r) h1 h2, _ => by
    refine ⟨vd_int h1, ?_, ?_⟩
    · rw [List.drop_left]; simp only [sh]
    · simp only [sh]
  | _, _, _, .minus _, _ => True.intro
  | d, L, o, .br _ b, hd => by
    have := pb_ok b hd
    cases o with
    | ok x n => exact this.2
    | no n => exact True.intro
theorem pb_ok : ∀ {d : Nat} {L : List Nat} {o : Out}, PB' d L o → d ≤ 40 → OkB d L o
  | _, _, _, .no _, _ => True.intro
  | d, _, _, .nil (r := r) h, _ => by
    have e : sh (.tuple []) = [40, 41] := by simp [sh, shL, joinL]
    refine ⟨⟨_, rfl⟩, ?_, by rw [e]; rfl, by rw [e]; rfl⟩
    obtain ⟨k, hk⟩ : ∃ k, 40 - d = k + 1 := ⟨39 - d, by omega⟩
    rw [hk]
    exact fun e m => nomatch m
  | _, _, _, .bad _ _ _, _ => True.intro
  | d, _, _, .go (n := n) (r := r) (x := x) (o := o) h h1 a l, _ => by
    have ha := pa_ok a (by omega)
    have hl := lr_ok l (by omega)
    cases o with
    | no m => exact True.intro
    | ok y m =>
      obtain ⟨v1, v2, v3⟩ := ha
      obtain ⟨more, rfl, w1, w2, w3⟩ := hl
      have e : sh (.tuple ([x] ++ more)) = 40 :: (sh x ++ tailL (shL more) ++ [41]) := by
        simp only [sh, List.cons_append, List.nil_append, shL]
        rw [join_tail]
      obtain ⟨k, hk⟩ : ∃ k, 40 - d = k + 1 := ⟨39 - d, by omega⟩
      have hk' : 40 - (d + 1) = k := by omega
      rw [hk'] at v1 w1
      refine ⟨⟨_, rfl⟩, ?_, ?_, ?_⟩
      · rw [hk]
        intro e m
        rcases List.mem_append.mp m with m | m
        · rw [List.mem_singleton.mp m]; exact v1
        · exact w1 e m
      · have dd : (40 :: r).drop (1 + n + m) = (r.drop n).drop m := by
          rw [List.drop_drop, show 1 + n + m = (n + m) + 1 by omega]
          rfl
        rw [dd, e]
        rw [w2] at v2
        generalize (r.drop n).drop m = R at v2 ⊢
        rw [v2]
        simp
      · rw [e]
        simp
        omega
theorem lr_ok : ∀ {d : Nat} {acc : List D} {L : List Nat} {o : Out}, LR' d acc L o → d ≤ 40 → OkL d acc L o
  | d, acc, _, _, .fin (r := r), _ => ⟨[], by rw [List.append_nil], (fun e m => nomatch m), by simp [shL, tailL], by simp [shL, tailL]⟩
  | _, _, _, _, .no _ _, _ => True.intro
  | _, _, _, _, .bad _, _ => True.intro
  | d, acc, _, _, .go (n := n) (r := r) (x := x) (o := o) a l, hd => by
    have ha := pa_ok a hd
    have hl := lr_ok l hd
    cases o with
    | no m => exact True.intro
    | ok y m =>
      obtain ⟨v1, v2, v3⟩ := ha
      obtain ⟨more, rfl, w1, w2, w3⟩ := hl
      refine ⟨x :: more, by simp, fun e m => ?_, ?_, ?_⟩
      · rcases List.mem_cons.mp m with rfl | m
        · exact v1
        · exact w1 e m
      · have dd : (32 :: r).drop (1 + n + m) = (r.drop n).drop m := by
          rw [List.drop_drop, show 1 + n + m = (n + m) + 1 by omega]
          rfl
        simp only [shL]
        rw [dd, tail_cons]
        rw [w2] at v2
        generalize (r.drop n).drop m = R at v2 ⊢
        rw [v2]
        simp
      · simp only [shL]
        rw [tail_cons]
        simp
        omega
end
/-! ### any_part, brackets -/
def spPX (K : PySem.W.Frag) (C CW : Addr) (h : Nat) (t : Bool) : Sp := fun vs H Q E => ∃ (p : Addr) (z : Str) (i d : Nat) (o : Out) (Hs : Hp), vs = [.ref p] ∧ Scr C H p z i d ∧ z.length ≤ sizeLine ∧ d + h = 40 ∧ (if t = true then PB' d ((tl z).drop i) o else PA' d ((tl z).drop i) o) ∧ Same Hs H ∧ Hs p = none ∧
  Get (fun n => Bad CW p H n E) (fun x j => ∀ v Hs' H', Same Hs Hs' → Same Hs' H' → But p H H' → (∀ b, Hs b = none → Hs' b ≠ none → H b = none) → Scr C H' p z j d → Rp K Hs' v x → Q v H') i o
section
variable {P : Program} {w : World} {K : PySem.W.Frag} {mg : Str → Option Value} {base : Heap} {C CW CB fI : Addr}
theorem ok_partX (T : Tx K mg) (B : C_Scribe K mg C) (TX : X_NoWriting K mg CW CB fI) {h k : Nat} (O5 : OkMX P w K mg base C k "brackets" ["self"] (spPX K C CW h true)) (hk : 4 ≤ k) : OkMX P w K mg base C (k + 1) "any_part" ["self"] (spPX K C CW h false) := by
  have O1 : OkM P w K mg base C 1 "sign_ahead" ["self"] (spAhead C) := ok_ahead B
  have O3 : OkM P w K mg base C 1 "run_of" ["self", "some", "most"] (spRun C) := ok_run T B
  have O4 : OkMX P w K mg base C 4 "whole_number" ["self"] (spNumX C CW) := ok_numX T B TX
  refine OkMX.mk B.m_any_part sc_Scribe_any_part (fun vs H Q E h => ?_) (fun f cdv A outer s H vs Q E hr h => ?_)
  · obtain ⟨p, z, i, d, o, Hs, rfl, _⟩ := h; rfl
  · obtain ⟨p, z, i, d, o, Hs, rfl, ⟨dx, hp⟩, hz, hdh, hpa, hs, hsp, g⟩ := h
    have hpa : PA' d ((tl z).drop i) o := hpa
    have nA : ∀ z i d, (scF z i d).lookup ("sign_ahead" : Str) = none := fun z i d => scF_no _ _ _ (by decide +kernel) (by decide +kernel) (by decide +kernel)
    have nR : ∀ z i d, (scF z i d).lookup ("run_of" : Str) = none := fun z i d => scF_no _ _ _ (by decide +kernel) (by decide +kernel) (by decide +kernel)
    have nW : ∀ z i d, (scF z i d).lookup ("whole_number" : Str) = none := fun z i d => scF_no _ _ _ (by decide +kernel) (by decide +kernel) (by decide +kernel)
    have nB : ∀ z i d, (scF z i d).lookup ("brackets" : Str) = none := fun z i d => scF_no _ _ _ (by decide +kernel) (by decide +kernel) (by decide +kernel)
    refine ⟨_, pss_cons (ps_set (i := 1) sc_Scribe_any_part.nd rfl (Or.inl rfl) (pe_mth0 (pv 0) B.k.cl O1 (hr.mono (by omega))))
      (pss_cons (ps_if (PW.pt (pw_and (pt_cmpR (neG K rfl hr.units) (pv 1) pe_str (nomark _)) (pw_and1 (pt_cmpR op_in_str (pv 1) (pe_gv (by rfl) T.g_SMALL) (by rfl)))))
        (pss_one (ps_ret (pe_mth (pv 0) B.k.cl O3 (hr.mono (by omega)) (pa_cons (pe_gv (by rfl) T.g_SMALL) (pa_cons (pe_gv (by rfl) T.g_MOST_LETTERS) pa_nil))))) pss_nil)
      (pss_cons (ps_if (PW.pt (pw_and (pt_cmpR (neG K rfl hr.units) (pv 1) pe_str (nomark _)) (pw_and1 (pt_cmpR op_in_str (pv 1) (pe_op op_add_str (pe_gv (by rfl) T.g_FIGURES) pe_str) (by rfl)))))
        (pss_one (ps_ret (pe_mthX0 (pv 0) B.k.cl O4 (hr.toRoom.mono (by omega)) hr.gd (takes_of rfl rfl rfl rfl)))) pss_nil)
      (pss_one (ps_ret (pe_mthX0 (pv 0) B.k.cl O5 (hr.toRoom.mono (by omega)) hr.gd (takes_of rfl rfl rfl rfl)))))), ?_⟩
    refine ⟨_, rfl, p, dx, _, rfl, hp, nA _ _ _, p, z, i, d, rfl, ⟨dx, hp⟩, hz, ?_⟩
    have hbr : ∀ b : PB' d ((tl z).drop i) o, spPX K C CW h true [.ref p] H Q E := fun b => ⟨p, z, i, d, o, Hs, rfl, ⟨dx, hp⟩, hz, hdh, b, hs, hsp, g⟩
    rcases sg_take ((tl z).drop i) with ⟨e0, es⟩ | ⟨c, q, e0, es⟩
    · rw [es]
      have b : PB' d ((tl z).drop i) o := by
        rw [e0] at hpa ⊢
        generalize hL : ([] : List Nat) = L at hpa
        cases hpa with
        | word h1 =>
          have := congrArg List.length hL
          rw [List.length_append, List.length_nil] at this
          omega
        | num =>
          rename_i n r h1 h2
          have := congrArg List.length hL
          rw [List.length_append, List.length_nil] at this
          have hne : (intL n).length = 0 := by omega
          unfold intL at hne
          split at hne
          · simp at hne
          · exact absurd (List.eq_nil_of_length_eq_zero hne) (TL.numL_ne _)
        | minus => cases hL
        | br _ b => subst hL; exact b
      have no : ∀ {A B : Prop}, B → if (!decide (V.str (Str.ofString "") = V.str (Str.ofString ""))) = true then A else B := fun b => ifn (by simp) b
      refine ⟨_, rfl, .inl ⟨rfl, _, rfl, no (ifn Bool.false_ne_true ?_)⟩⟩
      refine ⟨_, rfl, .inl ⟨rfl, _, rfl, no (ifn Bool.false_ne_true ?_)⟩⟩
      exact ⟨_, rfl, p, dx, _, rfl, hp, nB _ _ _, hbr b⟩
    · rw [es]
      have ne : ∀ {A B : Prop}, A → if (!decide (V.str ⟨#[c]⟩ = V.str (Str.ofString ""))) = true then A else B := fun a => ifp (by
        rw [Bool.not_eq_true', Bool.eq_false_iff]
        exact sg_no (c := c) (r := []) (by rw [tl_e]; exact fun z => nomatch z)) a
      refine ⟨_, rfl, .inl ⟨rfl, _, rfl, ne ⟨_, rfl, _, _, rfl, rfl, _, rfl, ?_⟩⟩⟩
      rw [StrLaws.found_one]
      have hil := lt_of_drop e0
      have mf : c ∈ (Str.ofString "0123456789" ++ Str.ofString "-").cps.toList ↔ (48 ≤ c ∧ c ≤ 57) ∨ c = 45 := by
        show c ∈ tl (Str.ofString "0123456789" ++ Str.ofString "-") ↔ _
        rw [TL.tl_append, List.mem_append, mem_fig, tl_m, List.mem_singleton]
      -- by the part's kind
      generalize hL : (tl z).drop i = L at hpa
      cases hpa with
      | word h1 h2 h3 h4 =>
        rename_i u r
        have hc : small c := by
          cases u with
          | nil => cases h1
          | cons c' u =>
            rw [e0] at hL
            cases hL
            exact h3 _ (List.mem_cons_self ..)
        refine ifp (decide_eq_true (mem_small.mpr hc)) ?_
        refine ⟨_, rfl, p, dx, _, rfl, hp, nR _ _ _, p, z, _, i, d, 8, u, r, rfl, ⟨dx, hp⟩, hz, by omega, hL, fun c m => mem_small.mpr (h3 c m), h2, h4.imp id fun h c e => by rw [mem_small]; exact h c e, fun H' b' s' => ?_⟩
        exact g _ Hs H' (Same.refl _) (same_but hs hsp b') b' (fun b h1 h2 => absurd h1 h2) s' (Rp.str _)
      | num h1 h2 =>
        rename_i n r
        have hcn : (48 ≤ c ∧ c ≤ 57) ∨ c = 45 := by
          have hh : ∃ q', intL n = c :: q' := by
            rw [e0] at hL
            cases e : intL n with
            | nil =>
              exfalso
              unfold intL at e
              split at e
              · cases e
              · exact TL.numL_ne _ e
            | cons c' q' =>
              rw [e] at hL
              cases hL
              exact ⟨q', rfl⟩
          obtain ⟨q', e'⟩ := hh
          unfold intL at e'
          split at e'
          · injection e' with e1 e2; exact .inr e1.symm
          · exact .inl (TL.numL_digits n.natAbs c (by rw [e']; exact List.mem_cons_self ..))
        refine ifn (by rw [decide_eq_true_eq]; intro hm; have := mem_small.mp hm; omega) ?_
        refine ⟨_, rfl, .inl ⟨rfl, _, rfl, ne ⟨_, rfl, _, _, rfl, rfl, by decide +kernel, _, _, rfl, rfl, _, rfl, ?_⟩⟩⟩
        rw [StrLaws.found_one]
        refine ifp (decide_eq_true (mf.mpr hcn)) ?_
        refine ⟨_, rfl, p, dx, _, rfl, hp, nW _ _ _, p, z, i, d, rfl, ⟨dx, hp⟩, hz, .inl ⟨n, r, hL, h1, h2, fun H' b' s' => ?_⟩⟩
        exact g _ Hs H' (Same.refl _) (same_but hs hsp b') b' (fun b h1 h2 => absurd h1 h2) s' (Rp.int _)
      | minus hm =>
        rename_i r
        have hc : c = 45 := by rw [e0] at hL; cases hL; rfl
        refine ifn (by rw [decide_eq_true_eq]; intro hm; have := mem_small.mp hm; omega) ?_
        refine ⟨_, rfl, .inl ⟨rfl, _, rfl, ne ⟨_, rfl, _, _, rfl, rfl, by decide +kernel, _, _, rfl, rfl, _, rfl, ?_⟩⟩⟩
        rw [StrLaws.found_one]
        refine ifp (decide_eq_true (mf.mpr (.inr hc))) ?_
        exact ⟨_, rfl, p, dx, _, rfl, hp, nW _ _ _, p, z, i, d, rfl, ⟨dx, hp⟩, hz, .inr ⟨r, hL, hm, g⟩⟩
      | br hb b =>
        have hc := hb c (by rw [← hL, e0]; rfl)
        refine ifn (by rw [decide_eq_true_eq]; intro hm; exact hc.1 (mem_small.mp hm)) ?_
        refine ⟨_, rfl, .inl ⟨rfl, _, rfl, ne ⟨_, rfl, _, _, rfl, rfl, by decide +kernel, _, _, rfl, rfl, _, rfl, ?_⟩⟩⟩
        rw [StrLaws.found_one]
        refine ifn (by rw [decide_eq_true_eq, mf]; intro h; rcases h with h | h; exact hc.2.1 h; exact hc.2.2 h) ?_
        exact ⟨_, rfl, p, dx, _, rfl, hp, nB _ _ _, hbr (by rw [hL]; exact b)⟩
end

/-! ### brackets, read -/
section
variable {P : Program} {w : World} {K : PySem.W.Frag} {mg : Str → Option Value} {base : Heap} {C CW CB fI : Addr}
theorem sg_ne {L : List Nat} {x : Str} {c : Nat} (hx : tl x = [c]) (h : L.head? ≠ some c) : ¬ (decide (V.str (Sg (L.take 1)) = V.str x) = true) := fun e => by
  have e := of_decide_eq_true e
  injection e with e
  have e := congrArg tl e
  rw [hx] at e
  have e : L.take 1 = [c] := e
  cases L with
  | nil => cases e
  | cons a r =>
    injection e with e1 e2
    exact h (by rw [e1]; rfl)
theorem ok_brX (T : Tx K mg) (B : C_Scribe K mg C) (TX : X_NoWriting K mg CW CB fI) {h k : Nat} {spA : Sp} (O6 : OkMX P w K mg base C k "any_part" ["self"] spA) (hA : ∀ h', h = h' + 1 → ∀ vs H Q E, spPX K C CW h' false vs H Q E → spA vs H Q E) (hk : 3 ≤ k) : OkMX P w K mg base C (k + 1) "brackets" ["self"] (spPX K C CW h true) := by
  have O1 : OkM P w K mg base C 1 "sign_ahead" ["self"] (spAhead C) := ok_ahead B
  have O2 : OkMX P w K mg base C 3 "need_sign" ["self", "some"] (spNeedX C CW) := ok_needX B TX
  obtain ⟨fd, FI, bI⟩ := TX.f
  have F1 := ok_xi (P := P) (w := w) (base := base) TX.c FI
  refine OkMX.mk B.m_brackets sc_Scribe_brackets (fun vs H Q E h => ?_) (fun f cdv A outer s H vs Q E hr hh => ?_)
  · obtain ⟨p, z, i, d, o, Hs, rfl, _⟩ := h; rfl
  · obtain ⟨p, z, i, d, o, Hs, rfl, ⟨dx, hp⟩, hz, hdh, hpb, hs, hsp, g⟩ := hh
    have hpb : PB' d ((tl z).drop i) o := hpb
    have nA : ∀ z i d, (scF z i d).lookup ("sign_ahead" : Str) = none := fun z i d => scF_no _ _ _ (by decide +kernel) (by decide +kernel) (by decide +kernel)
    have nN : ∀ z i d, (scF z i d).lookup ("need_sign" : Str) = none := fun z i d => scF_no _ _ _ (by decide +kernel) (by decide +kernel) (by decide +kernel)
    have nP : ∀ z i d, (scF z i d).lookup ("any_part" : Str) = none := fun z i d => scF_no _ _ _ (by decide +kernel) (by decide +kernel) (by decide +kernel)
    have tk : ∀ {X : Cx} {E₁ : Value → Shared → Prop}, X.stack = X.env :: X.outer → X.env.frame = some X.env.locals → X.ex = [] → X.xe = (fun e s' => wpAny (model X.prog X.w) X.A (leaving X.env e) (fun _ s'' => CX X.prog X.w X.outer X.H_0 X.s_0 E e s'') E₁ s') → Takes X (fun cls d _ H => E cls d H) := fun a b c d => takes_of a b c d
    refine ⟨_, pss_cons (ps_if (PW.pt (pw_and (pt_cmpR (eqG K rfl hr.units) (pe_mth0 (pv 0) B.k.cl O1 (hr.mono (by omega))) pe_str (nomark _)) (pw_and1 (pt_cmpR (eqG K rfl hr.units) (pe_fld (pv 0) rfl) (pe_gv (by rfl) T.g_MOST_BRACKETS) (nomark _)))))
        (pss_one (ps_raise rfl (takes_of rfl rfl rfl rfl) (pmk_oex TX.c.ox TX.c.iC TX.c.tI F1 (hr.toRoom.mono (by omega)) bI .nil pass0 (by rfl) TX.c.g (pa_cons (pe_fld (pv 0) rfl) pa_nil)))) pss_nil)
      (pss_cons (ps_expr (pe_mthX (pv 0) B.k.cl O2 (hr.toRoom.mono (by omega)) hr.gd (takes_of rfl rfl rfl rfl) (pa_cons pe_str pa_nil)))
      (pss_cons (ps_fldaug (pv 0) pe_int in_add)
      (pss_cons (ps_set (i := 1) sc_Scribe_brackets.nd rfl (Or.inl rfl) (pe_lst pa_nil))
      (C8.pss_cut (ps_if (pt_cmpR (neG K rfl hr.units) (pe_mth0 (pv 0) B.k.cl O1 (hr.mono (by omega))) pe_str (nomark _)) (pss_one (ps_expr (appK K rfl (pv 1) (pe_mthX0 (pv 0) B.k.cl O6 (hr.toRoom.mono (by omega)) hr.gd (takes_of rfl rfl rfl rfl))))) pss_nil)
      (C8.pss_cut (ps_while (PassesOwn.leaving) (PW.pt (pw_and (pt_cmpR (neG K rfl hr.units) (pv 1) (pe_lst pa_nil) (nomark _)) (pw_and1 (pt_cmpR (neG K rfl hr.units) (pe_mth0 (pv 0) B.k.cl O1 (hr.mono (by omega))) pe_str (nomark _)))))
        (pss_cons (ps_expr (pe_mthX (pv 0) B.k.cl O2 (hr.toRoom.mono (by omega)) hr.gd (takes_of rfl rfl rfl rfl) (pa_cons pe_str pa_nil))) (pss_one (ps_expr (appK K rfl (pv 1) (pe_mthX0 (pv 0) B.k.cl O6 (hr.toRoom.mono (by omega)) hr.gd (takes_of rfl rfl rfl rfl)))))))
      (pss_cons (ps_expr (pe_mthX (pv 0) B.k.cl O2 (hr.toRoom.mono (by omega)) hr.gd (takes_of rfl rfl rfl rfl) (pa_cons pe_str pa_nil)))
      (pss_cons (ps_fldaug (pv 0) pe_int in_sub)
      (pss_one (ps_ret (pe_callTy (tupQ K rfl) (by rfl) T.z_tuple boot_tuple (pa_cons (pv 1) pa_nil))))))))))), ?_⟩
    -- the bracket's begin
    refine ⟨_, rfl, p, dx, _, rfl, hp, nA _ _ _, p, z, i, d, rfl, ⟨dx, hp⟩, hz, .inl ⟨rfl, _, rfl, ?_⟩⟩
    -- no bracket may begin here
    by_cases hno : ((tl z).drop i).head? ≠ some 40 ∨ d = 40
    · have ho : Bad CW p H i E := by
        generalize hL : (tl z).drop i = L at hpb
        cases hpb with
        | no _ => exact g
        | nil h => rw [hL] at hno; rcases hno with h' | h'; exact absurd rfl h'; omega
        | bad h => rw [hL] at hno; rcases hno with h' | h'; exact absurd rfl h'; omega
        | go h => rw [hL] at hno; rcases hno with h' | h'; exact absurd rfl h'; omega
      by_cases h40 : ((tl z).drop i).head? = some 40
      · have hd40 : d = 40 := hno.resolve_left (fun h => h h40)
        obtain ⟨r, er⟩ : ∃ r, (tl z).drop i = 40 :: r := by
          cases e : (tl z).drop i with
          | nil => rw [e] at h40; cases h40
          | cons a r => rw [e] at h40; injection h40 with h40; exact ⟨r, by rw [h40]⟩
        rw [er]
        refine ifp (sg_yes tl_lp) ⟨_, rfl, p, C, dx, _, _, rfl, hp, B.k.cl, B.n_depth, scF_dp _ _ _, .inl ⟨rfl, _, rfl, ifp (decide_eq_true (by rw [hd40]; rfl)) ?_⟩⟩
        exact ⟨_, rfl, p, C, dx, _, _, rfl, hp, B.k.cl, B.n_spot, scF_sp _ _ _, rz_in (σ := []) (W := fun cls d _ H => E cls d H) fun d' H' _ sm e => ho d' H' (But.of sm) e⟩
      · refine ifn (sg_ne tl_lp h40) (ifn Bool.false_ne_true ?_)
        refine ⟨_, rfl, p, dx, _, rfl, hp, nN _ _ _, p, z, _, i, d, rfl, ⟨dx, hp⟩, hz, .inr ⟨fun c hc => ?_, ho⟩⟩
        rw [tl_lp, List.mem_singleton]
        intro e
        rw [e] at hc
        exact h40 hc
    have hd40 : d < 40 := by
      have : d ≠ 40 := fun e => hno (.inr e)
      omega
    obtain ⟨h', rfl⟩ : ∃ h', h = h' + 1 := ⟨h - 1, by omega⟩
    obtain ⟨r0, er⟩ : ∃ r, (tl z).drop i = 40 :: r := by
      have h40 : ((tl z).drop i).head? = some 40 := Classical.byContradiction fun e => hno (.inl e)
      cases e : (tl z).drop i with
      | nil => rw [e] at h40; cases h40
      | cons a r => rw [e] at h40; injection h40 with h40; exact ⟨r, by rw [h40]⟩
    rw [er]
    refine ifp (sg_yes tl_lp) ⟨_, rfl, p, C, dx, _, _, rfl, hp, B.k.cl, B.n_depth, scF_dp _ _ _, .inl ⟨rfl, _, rfl, ifn (fun e => ?_) ?_⟩⟩
    · have e := of_decide_eq_true e
      injection e with e
      omega
    refine ⟨_, rfl, p, dx, _, rfl, hp, nN _ _ _, p, z, _, i, d, rfl, ⟨dx, hp⟩, hz, .inl ⟨40, r0, er, by rw [tl_lp]; exact List.mem_singleton.mpr rfl, fun H1 b1 s1 => ?_⟩⟩
    obtain ⟨dx1, hp1⟩ := s1
    refine ⟨_, rfl, p, C, dx1, _, _, rfl, hp1, B.k.cl, B.n_depth, scF_dp _ _ _, _, _, rfl, rfl, dx1, _, hp1, scF_len _ _ _, ?_⟩
    rw [scF_pdp z (i + 1) d _ (d + 1) (by omega)]
    have b2 : But p H (L2.upd H1 p (.ins C dx1 (scF z (i + 1) (d + 1)))) := b1.trans But.upd
    have hp2 : (L2.upd H1 p (.ins C dx1 (scF z (i + 1) (d + 1)))) p = some (.ins C dx1 (scF z (i + 1) (d + 1))) := upd_same
    generalize (L2.upd H1 p (.ins C dx1 (scF z (i + 1) (d + 1)))) = H2 at b2 hp2
    refine ⟨by show 0 ≤ sizeLine; exact Nat.zero_le _, fun q nq => ?_⟩
    have pq : p ≠ q := ne_of_none hp2 nq
    have hq0 : H q = none := b2.free pq.symm nq
    have hsq : Hs q = none := by
      cases e : Hs q with
      | none => rfl
      | some o => have := hs _ _ e; rw [hq0] at this; cases this
    have m2 : Cm Hs H p q Hs (L2.upd H2 q (.lst [])) := Cm.upd ⟨Same.refl _, same_but hs hsp b2, b2, fun b e1 e2 => absurd e1 e2, hsp, hsq⟩ hq0
    have hq3 : (L2.upd H2 q (.lst [])) q = some (.lst []) := upd_same
    have s3 : Scr C (L2.upd H2 q (.lst [])) p z (i + 1) (d + 1) := ⟨dx1, by rw [upd_ne pq]; exact hp2⟩
    generalize (L2.upd H2 q (.lst [])) = H3 at m2 hq3 s3
    have hd3 : (tl z).drop (i + 1) = r0 := drop_more (u := [40]) er
    -- what is wanted in the end
    let G : D → Nat → Prop := fun x j => ∀ v Hs' H', Same Hs Hs' → Same Hs' H' → But p H H' → (∀ b, Hs b = none → Hs' b ≠ none → H b = none) → Scr C H' p z j d → Rp K Hs' v x → Q v H'
    let Bd : Nat → Prop := fun n => Bad CW p H n E
    -- a part, put to the others
    have step : ∀ (acc : List D) (o' : Out) (Hs' H' : Hp) (i' : Nat) (xs : List V) (Q' : VK), PA' (d + 1) ((tl z).drop i') o' → xs.length + 1 ≤ sizeLine → Scr C H' p z i' (d + 1) → H' q = some (.lst xs) → RpAll K Hs' xs acc → Cm Hs H p q Hs' H' →
        Get Bd (fun x j => ∀ v Hs2 H2, H2 q = some (.lst xs) → xs.length < sizeLine → Cm Hs H p q Hs2 (L2.upd H2 q (.lst (xs ++ [v]))) → Scr C (L2.upd H2 q (.lst (xs ++ [v]))) p z j (d + 1) → RpAll K Hs2 (xs ++ [v]) (acc ++ [x]) → Q' v H2) i' o' → spA [.ref p] H' Q' E := by
      intro acc o' Hs' H' i' xs Q' pa hl sc hq rp cm fin
      refine hA h' rfl _ _ _ _ ⟨p, z, i', d + 1, o', Hs', rfl, sc, hz, by omega, pa, cm.b, cm.e, ?_⟩
      cases o' with
      | no n => exact Bad.later (CW := CW) (p := p) (H := H) (n := i' + n) (E := E) fin cm.c
      | ok x n =>
        intro v Hs2 H4 g1 g2 g3 g4 g5 g6
        obtain ⟨dx', hp'⟩ := sc
        have cm2 := cm.more g1 g2 g3 g4 hp' hq
        exact fin v Hs2 H4 (g3 _ _ pq.symm hq) (by omega) (cm2.upd hq0) (by obtain ⟨dx4, e4⟩ := g5; exact ⟨dx4, by rw [upd_ne pq]; exact e4⟩) ((RpAll.mono g1 rp).app (.cons g6 .nil))
    have zl : (tl z).length ≤ sizeLine := by rw [TL.len_tl] at hz; exact hz
    -- between the parts
    refine ⟨fun σ H' => σ = [some (.ref p), some (.ref q)] ∧ ∃ acc i' o' Hs' xs, LR' (d + 1) acc ((tl z).drop i') o' ∧ (acc = [] → ∃ r, (tl z).drop i' = 41 :: r) ∧ (∀ e ∈ acc, vd 40 e) ∧ xs.length < i' ∧ Get Bd G i' (match o' with | .ok x n => .ok x n | .no n => .no n) ∧ Scr C H' p z i' (d + 1) ∧ H' q = some (.lst xs) ∧ RpAll K Hs' xs acc ∧ Cm Hs H p q Hs' H', ?_, ?_⟩
    · obtain ⟨dx3, hp3⟩ := s3
      refine ⟨_, rfl, p, dx3, _, rfl, hp3, nA _ _ _, p, z, i + 1, d + 1, rfl, ⟨dx3, hp3⟩, hz, .inl ⟨rfl, _, rfl, ?_⟩⟩
      rw [er] at hpb
      rw [hd3]
      generalize hL : (40 :: r0 : List Nat) = L at hpb
      cases hpb with
      | no h => subst hL; rcases h with h | h; exact absurd rfl h; omega
      | nil _ =>
        cases hL
        refine ifn ?_ ⟨rfl, [], i + 1, .ok (.tuple []) 1, Hs, [], by rw [hd3]; exact .fin, fun _ => ⟨_, hd3⟩, (fun e m => nomatch m), by simp, ?_, ⟨dx3, hp3⟩, hq3, .nil, m2⟩
        · rw [sg_yes tl_rp]; exact Bool.false_ne_true
        · exact g
      | bad _ h1 a =>
        cases hL
        refine ifp (by rw [Bool.not_eq_true', Bool.eq_false_iff]; exact sg_ne tl_rp h1) ?_
        refine ⟨_, rfl, .inl ⟨rfl, [], SqL.of hq3⟩, _, rfl, p, dx3, _, rfl, hp3, nP _ _ _, ?_⟩
        refine step [] (.no _) Hs H3 (i + 1) [] _ (by rw [hd3]; exact a) (by show 0 + 1 ≤ sizeLine; decide) ⟨dx3, hp3⟩ hq3 .nil m2 ?_
        have g' := Get.up (k := 1) (o := .no _) g
        exact g'
      | go hx h1 a l =>
        rename_i n r x o'
        cases hL
        have va := pa_ok a (by omega)
        have hn1 : 1 ≤ n := by
          obtain ⟨c, u, ec, _⟩ := sh_head va.1
          have := va.2.2
          rw [ec, List.length_cons] at this
          omega
        refine ifp (by rw [Bool.not_eq_true', Bool.eq_false_iff]; exact sg_ne tl_rp h1) ?_
        refine ⟨_, rfl, .inl ⟨rfl, [], SqL.of hq3⟩, _, rfl, p, dx3, _, rfl, hp3, nP _ _ _, ?_⟩
        refine step [] (.ok x n) Hs H3 (i + 1) [] _ (by rw [hd3]; exact a) (by show 0 + 1 ≤ sizeLine; decide) ⟨dx3, hp3⟩ hq3 .nil m2 ?_
        intro v Hs2 H4 hq2 hl2 cm2 sc2 rp2
        refine ⟨q, [], v, rfl, rfl, hq2, hl2, rfl, [x], i + 1 + n, o', Hs2, [v], ?_, (fun z => nomatch z), fun e m => ?_, by simp; omega, ?_, sc2, upd_same, rp2, cm2⟩
        · rw [← List.drop_drop, hd3]; exact l
        · rw [List.mem_singleton.mp m]; exact vd_mono va.1 (by omega)
        · have g' := Get.up g
          rw [← Nat.add_assoc] at g'
          cases o' <;> exact g'
    rintro σ H' ⟨rfl, st⟩
    refine ⟨fun σ H' => σ = [some (.ref p), some (.ref q)] ∧ ∃ acc i' Hs' xs r, (tl z).drop i' = 41 :: r ∧ G (.tuple acc) (i' + 1) ∧ Scr C H' p z i' (d + 1) ∧ H' q = some (.lst xs) ∧ RpAll K Hs' xs acc ∧ Cm Hs H p q Hs' H', ?_, ?_⟩
    · refine ⟨fun n σ H' => σ = [some (.ref p), some (.ref q)] ∧ ∃ acc i' o' Hs' xs, n = (tl z).length - i' ∧ LR' (d + 1) acc ((tl z).drop i') o' ∧ (acc = [] → ∃ r, (tl z).drop i' = 41 :: r) ∧ (∀ e ∈ acc, vd 40 e) ∧ xs.length < i' ∧ Get Bd G i' o' ∧ Scr C H' p z i' (d + 1) ∧ H' q = some (.lst xs) ∧ RpAll K Hs' xs acc ∧ Cm Hs H p q Hs' H', ?_, ?_⟩
      · obtain ⟨acc, i', o', Hs', xs, a1, a2, a3, a4, a5, a6⟩ := st
        refine ⟨_, rfl, acc, i', o', Hs', xs, rfl, a1, a2, a3, a4, ?_, a6⟩
        cases o' <;> exact a5
      rintro n σ H' ⟨rfl, acc, i', o', Hs', xs, rfl, hlr, hnil, hvd, hxl, gg, ⟨dx', hp'⟩, e6, e7, e8⟩
      refine ⟨_, rfl, by show 0 ≤ sizeLine; exact Nat.zero_le _, fun l nl => ?_⟩
      have ql : q ≠ l := ne_of_none e6 nl
      have pl : p ≠ l := ne_of_none hp' nl
      have cm' : Cm Hs H p q Hs' (L2.upd H' l (.lst [])) := e8.own (But.new nl)
      have hq' : (L2.upd H' l (.lst [])) q = some (.lst xs) := by rw [upd_ne ql]; exact e6
      have hp'' : (L2.upd H' l (.lst [])) p = some (.ins C dx' (scF z i' (d + 1))) := by rw [upd_ne pl]; exact hp'
      refine .inr ⟨.list acc, .list [], Rd'.dp (ifp rfl ⟨q, _, rfl, hq', .lst e7⟩) cm'.b (vd_shL hvd (by omega)), Rd'.dp (ifp rfl ⟨l, _, rfl, upd_same, .lst .nil⟩) cm'.b (show SeqAt.shaped _ = true by decide +kernel), vd_shL hvd (by omega), by decide +kernel, _, rfl, ?_⟩
      generalize (L2.upd H' l (.lst [])) = H5 at cm' hq' hp''
      -- the loop's end
      have out : ∀ r, (tl z).drop i' = 41 :: r → (fun σ H' => σ = [some (V.ref p), some (V.ref q)] ∧ ∃ acc i' Hs' xs r, (tl z).drop i' = 41 :: r ∧ G (.tuple acc) (i' + 1) ∧ Scr C H' p z i' (d + 1) ∧ H' q = some (.lst xs) ∧ RpAll K Hs' xs acc ∧ Cm Hs H p q Hs' H') [some (V.ref p), some (V.ref q)] H5 := fun r e => by
        rw [e] at hlr
        generalize hL : (41 :: r : List Nat) = L at hlr
        cases hlr with
        | fin => exact ⟨rfl, acc, i', Hs', xs, r, e, gg, ⟨dx', hp''⟩, hq', e7, cm'⟩
        | no h => subst hL; exact absurd rfl h
        | bad => cases hL
        | go => cases hL
      cases acc with
      | nil =>
        obtain ⟨r, e⟩ := hnil rfl
        refine ifn (by simp [PyData.eqv, PyData.eqvAll]) (ifn Bool.false_ne_true (out r e))
      | cons d0 dr =>
        refine ifp (by simp [PyData.eqv, PyData.eqvAll]) ?_
        refine ⟨_, rfl, p, dx', _, rfl, hp'', nA _ _ _, p, z, i', d + 1, rfl, ⟨dx', hp''⟩, hz, .inl ⟨rfl, _, rfl, ?_⟩⟩
        by_cases h41 : ((tl z).drop i').head? = some 41
        · obtain ⟨r, e⟩ : ∃ r, (tl z).drop i' = 41 :: r := by
            cases e : (tl z).drop i' with
            | nil => rw [e] at h41; cases h41
            | cons a r => rw [e] at h41; injection h41 with h41; exact ⟨r, by rw [h41]⟩
          refine ifn ?_ (out r e)
          rw [e, sg_yes tl_rp]
          exact Bool.false_ne_true
        · refine ifp (by rw [Bool.not_eq_true', Bool.eq_false_iff]; exact sg_ne tl_rp h41) ?_
          refine ⟨fun σ' H'' => ∃ m', m' < (tl z).length - i' ∧ (σ' = [some (.ref p), some (.ref q)] ∧ ∃ acc i' o' Hs' xs, m' = (tl z).length - i' ∧ LR' (d + 1) acc ((tl z).drop i') o' ∧ (acc = [] → ∃ r, (tl z).drop i' = 41 :: r) ∧ (∀ e ∈ acc, vd 40 e) ∧ xs.length < i' ∧ Get Bd G i' o' ∧ Scr C H'' p z i' (d + 1) ∧ H'' q = some (.lst xs) ∧ RpAll K Hs' xs acc ∧ Cm Hs H p q Hs' H''), fun _ _ h => h, ?_⟩
          refine ⟨_, rfl, p, dx', _, rfl, hp'', nN _ _ _, p, z, _, i', d + 1, rfl, ⟨dx', hp''⟩, hz, ?_⟩
          generalize hL : (tl z).drop i' = L at hlr h41
          cases hlr with
          | fin => exact absurd rfl h41
          | no h1 h2 =>
            refine .inr ⟨fun c hc => ?_, Bad.later (CW := CW) (p := p) (H := H) (n := i') (E := E) gg cm'.c⟩
            rw [tl_sp, List.mem_singleton]
            intro e
            rw [e] at hc
            exact h2 hc
          | bad a =>
            rename_i n r
            refine .inl ⟨32, r, rfl, by rw [tl_sp]; exact List.mem_singleton.mpr rfl, fun H6 b6 s6 => ?_⟩
            obtain ⟨dx6, hp6⟩ := s6
            have hq6 := b6 _ _ pq.symm hq'
            have hd6 : (tl z).drop (i' + 1) = r := drop_more (u := [32]) hL
            have hi' := lt_of_drop hL
            refine ⟨_, rfl, .inl ⟨rfl, xs, SqL.of hq6⟩, _, rfl, p, dx6, _, rfl, hp6, nP _ _ _, ?_⟩
            refine step (d0 :: dr) (.no n) Hs' H6 (i' + 1) xs _ (by rw [hd6]; exact a) (by omega) ⟨dx6, hp6⟩ hq6 e7 (cm'.own b6) ?_
            exact Get.up (k := 1) (o := .no n) gg
          | go a l =>
            rename_i n r x o2
            refine .inl ⟨32, r, rfl, by rw [tl_sp]; exact List.mem_singleton.mpr rfl, fun H6 b6 s6 => ?_⟩
            obtain ⟨dx6, hp6⟩ := s6
            have hq6 := b6 _ _ pq.symm hq'
            have hd6 : (tl z).drop (i' + 1) = r := drop_more (u := [32]) hL
            have hi' := lt_of_drop hL
            have va := pa_ok a (by omega)
            refine ⟨_, rfl, .inl ⟨rfl, xs, SqL.of hq6⟩, _, rfl, p, dx6, _, rfl, hp6, nP _ _ _, ?_⟩
            refine step (d0 :: dr) (.ok x n) Hs' H6 (i' + 1) xs _ (by rw [hd6]; exact a) (by omega) ⟨dx6, hp6⟩ hq6 e7 (cm'.own b6) ?_
            intro v Hs2 H4 hq2 hl2 cm2 sc2 rp2
            refine ⟨q, xs, v, rfl, rfl, hq2, hl2, (tl z).length - (i' + 1 + n), by omega, rfl, d0 :: dr ++ [x], i' + 1 + n, o2, Hs2, xs ++ [v], rfl, ?_, (fun z => nomatch z), fun e m => ?_, by rw [List.length_append]; simp; omega, ?_, sc2, upd_same, rp2, cm2⟩
            · rw [← List.drop_drop, hd6]; exact l
            · rcases List.mem_append.mp m with m | m
              · exact hvd e m
              · rw [List.mem_singleton.mp m]; exact vd_mono va.1 (by omega)
            · have g' := Get.up gg
              rw [← Nat.add_assoc] at g'
              exact g'
    rintro σ H' ⟨rfl, acc, i', Hs', xs, r, e4, gG, ⟨dx', hp'⟩, e6, e7, e8⟩
    refine ⟨_, rfl, p, dx', _, rfl, hp', nN _ _ _, p, z, _, i', d + 1, rfl, ⟨dx', hp'⟩, hz, .inl ⟨41, r, e4, by rw [tl_rp]; exact List.mem_singleton.mpr rfl, fun H6 b6 s6 => ?_⟩⟩
    obtain ⟨dx6, hp6⟩ := s6
    refine ⟨_, rfl, p, C, dx6, _, _, rfl, hp6, B.k.cl, B.n_depth, scF_dp _ _ _, _, _, rfl, rfl, dx6, _, hp6, scF_len _ _ _, ?_⟩
    rw [scF_pdp z (i' + 1) (d + 1) _ d (by omega)]
    have cm7 : Cm Hs H p q Hs' (L2.upd H6 p (.ins C dx6 (scF z (i' + 1) d))) := e8.own (b6.trans But.upd)
    have hp7 : (L2.upd H6 p (.ins C dx6 (scF z (i' + 1) d))) p = some (.ins C dx6 (scF z (i' + 1) d)) := upd_same
    have hq7 : (L2.upd H6 p (.ins C dx6 (scF z (i' + 1) d))) q = some (.lst xs) := by rw [upd_ne pq.symm]; exact b6 _ _ pq.symm e6
    generalize (L2.upd H6 p (.ins C dx6 (scF z (i' + 1) d))) = H7 at cm7 hp7 hq7
    refine ⟨_, rfl, q, xs, rfl, .inl ⟨SqL.of hq7, fun l nl => ?_⟩⟩
    have nl' : Hs' l = none := by
      cases e : Hs' l with
      | none => rfl
      | some o => have := cm7.b _ _ e; rw [nl] at this; cases this
    refine gG _ (L2.upd Hs' l (.tup xs)) _ (cm7.a.trans (same_upd nl')) (fun b o e => ?_) (cm7.c.trans (But.new nl)) (fun b h1 h2 => ?_) ⟨dx6, by rw [upd_ne (ne_of_none hp7 nl), hp7]⟩ (Rp.tup (SqT.of upd_same) (RpAll.mono (same_upd nl') e7))
    · by_cases hb : b = l
      · subst hb; rw [upd_same] at e ⊢; exact e
      · rw [upd_ne hb] at e ⊢; exact cm7.b _ _ e
    · by_cases hb : b = l
      · subst hb
        cases e : H b with
        | none => rfl
        | some o =>
          have := cm7.c b o (fun z => by subst z; rw [hp7] at nl; cases nl) e
          rw [nl] at this; cases this
      · rw [upd_ne hb] at h2
        exact cm7.d b h1 h2
theorem ok_anyX (T : Tx K mg) (B : C_Scribe K mg C) (TX : X_NoWriting K mg CW CB fI) : ∀ h : Nat, OkMX P w K mg base C (2 * h + 5) "brackets" ["self"] (spPX K C CW h true)
  | 0 => (ok_brX (k := 3) (spA := fun _ _ _ _ => False) T B TX ((OkMX.mk (k := 0) B.m_any_part sc_Scribe_any_part (fun _ _ _ _ h => h.elim) (fun _ _ _ _ _ _ _ _ _ _ h => h.elim)).mono (by omega)) (fun h' e => by omega) (by omega)).mono (by omega)
  | h + 1 => (ok_brX (k := 2 * h + 6) T B TX (ok_partX T B TX (ok_anyX T B TX h) (by omega)) (fun h' e vs H Q E q => by
      have : h' = h := by omega
      subst this
      exact q) (by omega)).mono (by omega)
/-- read, of any row of signs -/
def spReadX (K : PySem.W.Frag) (CW : Addr) : Sp := fun vs H Q E => ∃ (z : Str) (o : Out) (Hs : Hp), vs = [.str z] ∧ z.length ≤ sizeLine ∧ PB' 0 (tl z) o ∧ Same Hs H ∧
  match o with
  | .ok x n => (n = (tl z).length → ∀ v Hs' H', Same Hs Hs' → Same Hs' H' → Same H H' → (∀ b, Hs b = none → Hs' b ≠ none → H b = none) → Rp K Hs' v x → Q v H') ∧ (n ≠ (tl z).length → ∀ d H', Same H H' → H' d = some (.xd [(("place" : Str), .int (n : Nat))]) → E (.ref CW) (some d) H')
  | .no n => ∀ d H', Same H H' → H' d = some (.xd [(("place" : Str), .int (n : Nat))]) → E (.ref CW) (some d) H'
theorem ok_readX (T : Tx K mg) (B : C_Scribe K mg C) (TX : X_NoWriting K mg CW CB fI) : OkX P w K mg base 87 "read" ["writing"] (spReadX K CW) := by
  have O0 : OkM P w K mg base C 1 "__init__" ["self", "signs"] (spScI C) := ok_scI B
  have O5 : OkMX P w K mg base C 85 "brackets" ["self"] (spPX K C CW 40 true) := ok_anyX T B TX 40
  obtain ⟨fd, FI, bI⟩ := TX.f
  have F1 := ok_xi (P := P) (w := w) (base := base) TX.c FI
  refine OkX.mk T.d_read sc_read (fun vs H Q E h => ?_) (fun f cdv A outer s H vs Q E hr h => ?_)
  · obtain ⟨z, o, Hs, rfl, _⟩ := h; rfl
  obtain ⟨z, o, Hs, rfl, hz, hpb, h1, hq⟩ := h
  have nS : ∀ z i d, (scF z i d).lookup ("brackets" : Str) = none := fun z i d => scF_no _ _ _ (by decide +kernel) (by decide +kernel) (by decide +kernel)
  refine ⟨_, pss_cons (ps_set (i := 1) sc_read.nd rfl (Or.inl rfl) (pe_new B.k O0 (hr.mono (by omega)) (by rfl) (pa_cons (pv 0) pa_nil)))
    (pss_cons (ps_set (i := 2) sc_read.nd rfl (Or.inl rfl) (pe_mthX0 (pv 1) B.k.cl O5 (hr.toRoom.mono (by omega)) hr.gd (takes_of rfl rfl rfl rfl)))
    (pss_cons (ps_if (pt_cmpR op_lt (pe_fld (pv 1) rfl) (pe_callB call_len_str (by rfl) T.z_len boot_len (pa_cons (pv 0) pa_nil)) (nomark _)) (pss_one (ps_raise rfl (takes_of rfl rfl rfl rfl) (pmk_oex TX.c.ox TX.c.iC TX.c.tI F1 (hr.toRoom.mono (by omega)) bI .nil pass0 (by rfl) TX.c.g (pa_cons (pe_fld (pv 1) rfl) pa_nil)))) pss_nil)
    (pss_one (ps_ret (pv 2))))), ?_⟩
  refine ⟨_, rfl, fun p dx np ndx ne => ⟨p, dx, z, rfl, upd_same, fun H1 b1 s1 => ⟨rfl, ?_⟩⟩⟩
  have sm0 : Same H (L2.upd (L2.upd H dx (.own p)) p (.ins C dx [])) := (same_upd ndx).trans (same_upd (by rw [upd_ne ne.symm]; exact np))
  have sm1 : Same H H1 := fun b o e => b1 b o (ne_of_none e np) (sm0 b o e)
  have hsp : Hs p = none := by
    cases e : Hs p with
    | none => rfl
    | some o => have := h1 _ _ e; rw [np] at this; cases this
  obtain ⟨dx1, hp1⟩ := s1
  refine ⟨_, rfl, p, dx1, _, rfl, hp1, nS _ _ _, p, z, 0, 0, o, Hs, rfl, ⟨dx1, hp1⟩, hz, rfl, by rw [List.drop_zero]; exact hpb, h1.trans sm1, hsp, ?_⟩
  have smB : ∀ {H' : Hp}, But p H1 H' → Same H H' := fun b c o e => b c o (ne_of_none e np) (sm1 c o e)
  cases o with
  | no n =>
    show Bad CW p H1 (0 + n) E
    rw [Nat.zero_add]
    exact fun d H' b e => hq d H' (smB b) e
  | ok x n =>
    intro v Hs' H' g1 g2 g3 g4 g5 g6
    have g5 : Scr C H' p z (0 + n) 0 := g5
    rw [Nat.zero_add] at g5
    obtain ⟨dx2, hp2⟩ := g5
    have hle : n ≤ (tl z).length := by
      obtain ⟨_, _, e, l⟩ := pb_ok hpb (by omega)
      have := congrArg List.length e
      rw [List.length_append, l] at this
      omega
    refine ⟨_, rfl, p, C, dx2, _, _, rfl, hp2, B.k.cl, B.n_spot, scF_sp _ _ _, _, rfl, z, rfl, hz, _, _, rfl, rfl, _, rfl, ?_⟩
    by_cases hn : n = (tl z).length
    · refine ifn (fun e => ?_) ⟨_, rfl, ?_⟩
      · have e := of_decide_eq_true e
        rw [TL.len_tl] at e
        omega
      · refine hq.1 hn v Hs' H' g1 g2 (smB g3) (fun b e1 e2 => ?_) g6
        have := g4 b e1 e2
        cases e : H b with
        | none => rfl
        | some o => rw [sm1 _ _ e] at this; cases this
    · refine ifp (decide_eq_true (by rw [TL.len_tl]; omega)) ?_
      exact ⟨_, rfl, p, C, dx2, _, _, rfl, hp2, B.k.cl, B.n_spot, scF_sp _ _ _, rz_in (σ := []) (W := fun cls d _ H => E cls d H) fun d' H2 _ sm e => hq.2 hn d' H2 ((smB g3).trans sm) e⟩
end

/-! ### the automaton of the law, and that it does as the reader does -/
inductive Aut where
  | start | opn | word (m : Nat) | minus | number (m : Nat) | nought | blank | behind | fin
def stp (s : Aut) (d c : Nat) : Option (Aut × Nat) :=
  match s with
  | .start => if c = 40 ∧ d < 40 then some (.opn, d + 1) else none
  | .opn => if c = 40 ∧ d < 40 then some (.opn, d + 1) else if c = 41 then some (if 1 < d then .behind else .fin, d - 1) else if 97 ≤ c ∧ c ≤ 122 then some (.word 1, d) else if c = 45 then some (.minus, d) else if c = 48 then some (.nought, d) else if 49 ≤ c ∧ c ≤ 57 then some (.number 1, d) else none
  | .blank => if c = 40 ∧ d < 40 then some (.opn, d + 1) else if 97 ≤ c ∧ c ≤ 122 then some (.word 1, d) else if c = 45 then some (.minus, d) else if c = 48 then some (.nought, d) else if 49 ≤ c ∧ c ≤ 57 then some (.number 1, d) else none
  | .word m => if c = 41 then some (if 1 < d then .behind else .fin, d - 1) else if c = 32 then some (.blank, d) else if (97 ≤ c ∧ c ≤ 122) ∧ m < 8 then some (.word (m + 1), d) else none
  | .number m => if c = 41 then some (if 1 < d then .behind else .fin, d - 1) else if c = 32 then some (.blank, d) else if (48 ≤ c ∧ c ≤ 57) ∧ m < 30 then some (.number (m + 1), d) else none
  | .nought => if c = 41 then some (if 1 < d then .behind else .fin, d - 1) else if c = 32 then some (.blank, d) else none
  | .behind => if c = 41 then some (if 1 < d then .behind else .fin, d - 1) else if c = 32 then some (.blank, d) else none
  | .minus => if 49 ≤ c ∧ c ≤ 57 then some (.number 1, d) else none
  | .fin => none
/-- the state where it stops, its depth, and how many signs it went -/
def going : Aut → Nat → List Nat → (Aut × Nat) × Nat
  | s, d, [] => ((s, d), 0)
  | s, d, c :: r => match stp s d c with
    | none => ((s, d), 0)
    | some (s', d') => ((going s' d' r).1, (going s' d' r).2 + 1)
def more (k : Nat) (x : (Aut × Nat) × Nat) : (Aut × Nat) × Nat := (x.1, k + x.2)
theorem more_more (j k : Nat) (x : (Aut × Nat) × Nat) : more j (more k x) = more (j + k) x := by unfold more; rw [Nat.add_assoc]
theorem more_zero (x : (Aut × Nat) × Nat) : more 0 x = x := by unfold more; rw [Nat.zero_add]
theorem going_step {s s' : Aut} {d d' c : Nat} {r : List Nat} (h : stp s d c = some (s', d')) : going s d (c :: r) = more 1 (going s' d' r) := by
  rw [going, h]; unfold more; rw [Nat.add_comm]
theorem going_stop {s : Aut} {d : Nat} {L : List Nat} (h : ∀ c, L.head? = some c → stp s d c = none) : going s d L = ((s, d), 0) := by
  cases L with
  | nil => rfl
  | cons c r => rw [going, h c rfl]
def Aut.isFin : Aut → Bool
  | .fin => true
  | _ => false
/-- a part has just been read -/
structure Shut (s : Aut) (d : Nat) (R : List Nat) : Prop where
  zb : stp s d 41 = some (if 1 < d then .behind else .fin, d - 1)
  zs : stp s d 32 = some (.blank, d)
  zn : ∀ c, R.head? = some c → c ≠ 41 → c ≠ 32 → stp s d c = none
  zf : s.isFin = false
theorem shut_behind {d : Nat} {R : List Nat} : Shut .behind d R := ⟨rfl, rfl, fun c _ h1 h2 => by unfold stp; simp [h1, h2], rfl⟩
theorem go_word {d : Nat} : ∀ (u : List Nat) (m : Nat) (r : List Nat), (∀ c ∈ u, small c) → m + u.length ≤ 8 → going (.word m) d (u ++ r) = more u.length (going (.word (m + u.length)) d r)
  | [], m, r, _, _ => by rw [List.length_nil, more_zero]; rfl
  | c :: u, m, r, h, hl => by
    have hc := h c (List.mem_cons_self ..)
    have hl : m + (u.length + 1) ≤ 8 := hl
    rw [List.cons_append, going_step (s' := .word (m + 1)) (d' := d) (by
      unfold small at hc
      unfold stp
      simp only
      rw [if_neg (by omega), if_neg (by omega), if_pos (by omega)])]
    rw [go_word u (m + 1) r (fun c m => h c (List.mem_cons_of_mem _ m)) (by omega), more_more]
    rw [List.length_cons, show m + 1 + u.length = m + (u.length + 1) by omega, Nat.add_comm 1]
theorem go_num {d : Nat} : ∀ (u : List Nat) (m : Nat) (r : List Nat), (∀ c ∈ u, dig c) → m + u.length ≤ 30 → going (.number m) d (u ++ r) = more u.length (going (.number (m + u.length)) d r)
  | [], m, r, _, _ => by rw [List.length_nil, more_zero]; rfl
  | c :: u, m, r, h, hl => by
    have hc := h c (List.mem_cons_self ..)
    have hl : m + (u.length + 1) ≤ 30 := hl
    rw [List.cons_append, going_step (s' := .number (m + 1)) (d' := d) (by
      unfold dig at hc
      unfold stp
      simp only
      rw [if_neg (by omega), if_neg (by omega), if_pos (by omega)])]
    rw [go_num u (m + 1) r (fun c m => h c (List.mem_cons_of_mem _ m)) (by omega), more_more]
    rw [List.length_cons, show m + 1 + u.length = m + (u.length + 1) by omega, Nat.add_comm 1]
/-- where a part may begin -/
def Beg (s : Aut) (L : List Nat) : Prop := (s = .opn ∧ L.head? ≠ some 41) ∨ s = .blank
theorem beg_small {s : Aut} {L : List Nat} {d c : Nat} (h : Beg s L) (hc : L.head? = some c) (hs : small c) : stp s d c = some (.word 1, d) := by
  unfold small at hs
  rcases h with ⟨rfl, _⟩ | rfl
  · simp only [stp]; rw [if_neg (by omega), if_neg (by omega), if_pos (by omega)]
  · simp only [stp]; rw [if_neg (by omega), if_pos (by omega)]
theorem beg_minus {s : Aut} {L : List Nat} {d : Nat} (h : Beg s L) : stp s d 45 = some (.minus, d) := by
  rcases h with ⟨rfl, _⟩ | rfl <;> simp [stp]
theorem beg_nought {s : Aut} {L : List Nat} {d : Nat} (h : Beg s L) : stp s d 48 = some (.nought, d) := by
  rcases h with ⟨rfl, _⟩ | rfl <;> simp [stp]
theorem beg_fig {s : Aut} {L : List Nat} {d c : Nat} (h : Beg s L ∨ s = .minus) (hs : 49 ≤ c ∧ c ≤ 57) : stp s d c = some (.number 1, d) := by
  rcases h with (⟨rfl, _⟩ | rfl) | rfl
  · simp only [stp]; rw [if_neg (by omega), if_neg (by omega), if_neg (by omega), if_neg (by omega), if_neg (by omega), if_pos (by omega)]
  · simp only [stp]; rw [if_neg (by omega), if_neg (by omega), if_neg (by omega), if_neg (by omega), if_pos (by omega)]
  · simp only [stp]; rw [if_pos hs]
theorem num_fst {n : Nat} (h : n ≠ 0) (hl : n < 10 ^ 30) : ∃ f u, numL n = f :: u ∧ 49 ≤ f ∧ f ≤ 57 ∧ (∀ c ∈ u, dig c) ∧ u.length ≤ 29 := by
  obtain ⟨f, u, ef, f1, f2⟩ := num_cons n (by omega)
  refine ⟨f, u, ef, by omega, by omega, fun c m => TL.numL_digits n c (by rw [ef]; exact List.mem_cons_of_mem _ m), ?_⟩
  have := TL.numL_len (n := n) (k := 30) (by decide) hl
  rw [ef, List.length_cons] at this
  omega
theorem shut_word {m d : Nat} {r : List Nat} (h : m = 8 ∨ ∀ c, r.head? = some c → ¬ small c) : Shut (.word m) d r := ⟨by simp [stp], by simp [stp], fun c hc h1 h2 => by
  simp only [stp]
  rw [if_neg h1, if_neg h2, if_neg]
  intro ⟨h3, h4⟩
  rcases h with h | h
  · omega
  · exact h c hc h3, rfl⟩
theorem shut_num {m d : Nat} {r : List Nat} (h : m = 30 ∨ ∀ c, r.head? = some c → ¬ dig c) : Shut (.number m) d r := ⟨by simp [stp], by simp [stp], fun c hc h1 h2 => by
  simp only [stp]
  rw [if_neg h1, if_neg h2, if_neg]
  intro ⟨h3, h4⟩
  rcases h with h | h
  · omega
  · exact h c hc h3, rfl⟩
theorem shut_nought {d : Nat} {r : List Nat} : Shut .nought d r := ⟨by simp [stp], by simp [stp], fun c _ h1 h2 => by simp [stp, h1, h2], rfl⟩
/-- what the automaton does where the reader has the outcome o -/
def DoA (s : Aut) (d : Nat) (L : List Nat) : Out → Prop
  | .ok _ n => ∃ s', Shut s' d (L.drop n) ∧ going s d L = more n (going s' d (L.drop n))
  | .no n => ∃ s' d', s'.isFin = false ∧ going s d L = ((s', d'), n)
def DoB (s : Aut) (d : Nat) (L : List Nat) : Out → Prop
  | .ok _ n => going s d L = more n (going (if 1 < d + 1 then .behind else .fin) d (L.drop n))
  | .no n => ∃ s' d', s'.isFin = false ∧ going s d L = ((s', d'), n)
def DoL (s : Aut) (d : Nat) (L : List Nat) : Out → Prop
  | .ok _ n => going s d L = more n (going (if 1 < d then .behind else .fin) (d - 1) (L.drop n))
  | .no n => ∃ s' d', s'.isFin = false ∧ going s d L = ((s', d'), n)
theorem drop_up {c n m : Nat} {r : List Nat} : (c :: r).drop (1 + n + m) = (r.drop n).drop m := by
  rw [List.drop_drop, show 1 + n + m = (n + m) + 1 by omega]
  rfl
mutual
theorem pa_do : ∀ {d : Nat} {L : List Nat} {o : Out} {s : Aut}, PA' d L o → 1 ≤ d → Beg s L → DoA s d L o
  | d, _, _, s, .word (u := u) (r := r) h1 h2 h3 h4, _, hs => by
    cases u with
    | nil => exact absurd h1 (by simp)
    | cons c u =>
      have h2' : u.length + 1 ≤ 8 := h2
      refine ⟨.word (c :: u).length, ?_, ?_⟩
      · rw [List.drop_left]; exact shut_word h4
      · rw [List.drop_left, List.cons_append, going_step (beg_small (d := d) hs rfl (h3 c (List.mem_cons_self ..))), go_word u 1 r (fun c m => h3 c (List.mem_cons_of_mem _ m)) (by omega), more_more, List.length_cons, Nat.add_comm 1]
  | d, _, _, s, .num (n := n) (r := r) h1 h2, _, hs => by
    by_cases n0 : n = 0
    · subst n0
      have e0 : intL 0 = [48] := by decide +kernel
      rw [e0] at hs ⊢
      refine ⟨.nought, shut_nought, ?_⟩
      rw [List.drop_left]
      exact going_step (beg_nought hs)
    · obtain ⟨f, u, ef, f1, f2, f3, f4⟩ := num_fst (n := n.natAbs) (by omega) h1
      have hsh : Shut (.number (1 + u.length)) d r := shut_num (by
        rcases h2 with h | h | h
        · exact absurd h n0
        · refine .inl ?_
          rw [ef, List.length_cons] at h
          omega
        · exact .inr h)
      refine ⟨.number (1 + u.length), ?_, ?_⟩
      · rw [List.drop_left]; exact hsh
      · rw [List.drop_left]
        unfold intL at hs ⊢
        split
        · rename_i hn
          rw [if_pos hn] at hs
          rw [List.cons_append, going_step (beg_minus hs), ef, List.cons_append, going_step (beg_fig (L := []) (.inr rfl) ⟨f1, f2⟩), go_num u 1 r f3 (by omega), more_more, more_more]
          simp only [List.length_cons]
          rw [show 1 + 1 + u.length = u.length + 1 + 1 by omega]
        · rename_i hn
          rw [if_neg hn] at hs
          rw [ef, List.cons_append, going_step (beg_fig (.inl hs) ⟨f1, f2⟩), go_num u 1 r f3 (by omega), more_more]
          simp only [List.length_cons]
          rw [Nat.add_comm 1]
  | d, _, _, s, .minus (r := r) h, _, hs => by
    refine ⟨.minus, d, rfl, ?_⟩
    rw [going_step (beg_minus hs), going_stop (s := .minus) fun c hc => by simp only [stp]; rw [if_neg (h c hc)]]
    rfl
  | d, L, o, s, .br h b, hd, hs => by
    have hb := pb_do (s := s) b (.inr ⟨hs, h, hd⟩)
    cases o with
    | ok x n =>
      refine ⟨.behind, shut_behind, ?_⟩
      have hb : going s d L = more n (going (if 1 < d + 1 then .behind else .fin) d (L.drop n)) := hb
      rw [if_pos (by omega)] at hb
      exact hb
    | no n => exact hb
theorem pb_do : ∀ {d : Nat} {L : List Nat} {o : Out} {s : Aut}, PB' d L o → (s = .start ∨ (Beg s L ∧ (∀ c, L.head? = some c → ¬ small c ∧ ¬ dig c ∧ c ≠ 45) ∧ 1 ≤ d)) → DoB s d L o
  | d, L, _, s, .no h, hs => by
    refine ⟨s, d, ?_, ?_⟩
    · rcases hs with rfl | ⟨⟨rfl, _⟩ | rfl, _⟩ <;> rfl
    · refine going_stop fun c hc => ?_
      have n40 : ¬ (c = 40 ∧ d < 40) := by
        rcases h with h | h
        · rw [hc] at h
          intro ⟨e, _⟩
          exact h (by rw [e])
        · omega
      rcases hs with rfl | ⟨hs, h2, _⟩
      · simp only [stp]; rw [if_neg n40]
      · obtain ⟨a1, a2, a3⟩ := h2 c hc
        unfold small at a1
        unfold dig at a2
        rcases hs with ⟨rfl, h41⟩ | rfl
        · have : c ≠ 41 := fun e => h41 (by rw [hc, e])
          simp only [stp]
          rw [if_neg n40, if_neg this, if_neg a1, if_neg a3, if_neg (by omega), if_neg (by omega)]
        · simp only [stp]
          rw [if_neg n40, if_neg a1, if_neg a3, if_neg (by omega), if_neg (by omega)]
  | d, _, _, s, .nil (r := r) h, hs => by
    have e : stp s d 40 = some (.opn, d + 1) := by
      rcases hs with rfl | ⟨⟨rfl, _⟩ | rfl, _⟩ <;> simp [stp, h]
    show going s d (40 :: 41 :: r) = more 2 (going (if 1 < d + 1 then .behind else .fin) d r)
    rw [going_step e, going_step (s := .opn) (s' := if 1 < d + 1 then .behind else .fin) (d' := d) (by simp [stp]), more_more]
  | d, _, _, s, .bad (n := n) (r := r) h h1 a, hs => by
    have e : stp s d 40 = some (.opn, d + 1) := by
      rcases hs with rfl | ⟨⟨rfl, _⟩ | rfl, _⟩ <;> simp [stp, h]
    obtain ⟨s', d', f, g⟩ := pa_do (s := .opn) a (by omega) (.inl ⟨rfl, h1⟩)
    refine ⟨s', d', f, ?_⟩
    rw [going_step e, g]
    rfl
  | d, _, _, s, .go (n := n) (r := r) (x := x) (o := o) h h1 a l, hs => by
    have e : stp s d 40 = some (.opn, d + 1) := by
      rcases hs with rfl | ⟨⟨rfl, _⟩ | rfl, _⟩ <;> simp [stp, h]
    obtain ⟨s1, sh1, g1⟩ := pa_do (s := .opn) a (by omega) (.inl ⟨rfl, h1⟩)
    have hl := lr_do l (by omega) sh1
    cases o with
    | ok y m =>
      have hl : going s1 (d + 1) (r.drop n) = more m (going (if 1 < d + 1 then .behind else .fin) (d + 1 - 1) ((r.drop n).drop m)) := hl
      show going s d (40 :: r) = more (1 + n + m) (going (if 1 < d + 1 then .behind else .fin) d ((40 :: r).drop (1 + n + m)))
      rw [going_step e, g1, hl, more_more, more_more, drop_up, Nat.add_assoc]
      rfl
    | no m =>
      obtain ⟨s', d', f, g⟩ := hl
      refine ⟨s', d', f, ?_⟩
      rw [going_step e, g1, g]
      show (_, 1 + (n + m)) = (_, 1 + n + m)
      rw [Nat.add_assoc]
      rfl
theorem lr_do : ∀ {d : Nat} {acc : List D} {L : List Nat} {o : Out} {s : Aut}, LR' d acc L o → 1 ≤ d → Shut s d L → DoL s d L o
  | d, acc, _, _, s, .fin (r := r), _, hs => going_step hs.zb
  | d, acc, L, _, s, .no h h', _, hs => ⟨s, d, hs.zf, going_stop fun c hc => hs.zn c hc (fun e => h (by rw [hc, e])) (fun e => h' (by rw [hc, e]))⟩
  | d, acc, _, _, s, .bad (n := n) (r := r) a, hd, hs => by
    obtain ⟨s', d', f, g⟩ := pa_do (s := .blank) a hd (.inr rfl)
    refine ⟨s', d', f, ?_⟩
    rw [going_step hs.zs, g]
    rfl
  | d, acc, _, _, s, .go (n := n) (r := r) (x := x) (o := o) a l, hd, hs => by
    obtain ⟨s1, sh1, g1⟩ := pa_do (s := .blank) a hd (.inr rfl)
    have hl := lr_do l (by omega) sh1
    cases o with
    | ok y m =>
      have hl : going s1 d (r.drop n) = more m (going (if 1 < d then .behind else .fin) (d - 1) ((r.drop n).drop m)) := hl
      show going s d (32 :: r) = more (1 + n + m) (going (if 1 < d then .behind else .fin) (d - 1) ((32 :: r).drop (1 + n + m)))
      rw [going_step hs.zs, g1, hl, more_more, more_more, drop_up, Nat.add_assoc]
    | no m =>
      obtain ⟨s', d', f, g⟩ := hl
      refine ⟨s', d', f, ?_⟩
      rw [going_step hs.zs, g1, g]
      show (_, 1 + (n + m)) = (_, 1 + n + m)
      rw [Nat.add_assoc]
      rfl
end
/-! ### every row of signs has an outcome -/
theorem run_most {p : Nat → Prop} [DecidablePred p] : ∀ (k : Nat) (L : List Nat), ∃ u r, L = u ++ r ∧ (∀ c ∈ u, p c) ∧ u.length ≤ k ∧ (u.length = k ∨ ∀ c, r.head? = some c → ¬ p c)
  | 0, L => ⟨[], L, rfl, (fun c m => nomatch m), Nat.le_refl _, .inl rfl⟩
  | k + 1, [] => ⟨[], [], rfl, (fun c m => nomatch m), Nat.zero_le _, .inr fun c h => nomatch h⟩
  | k + 1, c :: L => by
    by_cases h : p c
    · obtain ⟨u, r, e, h1, h2, h3⟩ := run_most (p := p) k L
      refine ⟨c :: u, r, by rw [e]; rfl, ?_, by simpa using h2, by simpa using h3⟩
      intro x m
      rcases List.mem_cons.mp m with rfl | m
      · exact h
      · exact h1 x m
    · refine ⟨[], c :: L, rfl, (fun c m => nomatch m), Nat.zero_le _, .inr fun x hx => ?_⟩
      cases hx
      exact h
instance : DecidablePred small := fun c => by unfold small; infer_instance
instance : DecidablePred dig := fun c => by unfold dig; infer_instance
theorem num_of : ∀ (u : List Nat) (m : Nat), 1 ≤ m → (∀ c ∈ u, dig c) → ∃ n, numL n = numL m ++ u ∧ 1 ≤ n ∧ n < (m + 1) * 10 ^ u.length
  | [], m, h, _ => ⟨m, by rw [List.append_nil], h, by simp⟩
  | c :: u, m, h, hu => by
    have hc := hu c (List.mem_cons_self ..)
    unfold dig at hc
    obtain ⟨n, e, n1, n2⟩ := num_of u (m * 10 + (c - 48)) (by omega) (fun c m => hu c (List.mem_cons_of_mem _ m))
    refine ⟨n, ?_, n1, ?_⟩
    · rw [e, TL.numL_step (by omega), show (m * 10 + (c - 48)) / 10 = m by omega, show 48 + (m * 10 + (c - 48)) % 10 = c by omega, List.append_assoc]
      rfl
    · refine Nat.lt_of_lt_of_le n2 ?_
      rw [List.length_cons, Nat.pow_succ, Nat.mul_comm (10 ^ u.length), ← Nat.mul_assoc]
      exact Nat.mul_le_mul_right _ (by omega)
theorem num_at {f : Nat} {u : List Nat} (h1 : 49 ≤ f) (h2 : f ≤ 57) (hu : ∀ c ∈ u, dig c) (hl : u.length ≤ 29) : ∃ n : Nat, numL n = f :: u ∧ 1 ≤ n ∧ n < 10 ^ 30 := by
  obtain ⟨n, e, n1, n2⟩ := num_of u (f - 48) (by omega) hu
  refine ⟨n, ?_, n1, ?_⟩
  · rw [e, TL.numL_lt (by omega), show 48 + (f - 48) = f by omega]; rfl
  · refine Nat.lt_of_lt_of_le n2 ?_
    have : 10 ^ u.length ≤ 10 ^ 29 := Nat.pow_le_pow_right (by omega) hl
    calc (f - 48 + 1) * 10 ^ u.length ≤ 10 * 10 ^ 29 := Nat.mul_le_mul (by omega) this
      _ = 10 ^ 30 := by rw [← Nat.pow_succ']
theorem pa_of {d : Nat} {L : List Nat} (h : ∃ o, PB' d L o) : ∃ o, PA' d L o := by
  by_cases hb : ∀ c, L.head? = some c → ¬ small c ∧ ¬ dig c ∧ c ≠ 45
  · obtain ⟨o, b⟩ := h
    exact ⟨o, .br hb b⟩
  cases L with
  | nil => exact absurd (fun c h => nomatch h) hb
  | cons c r =>
    by_cases hs : small c
    · obtain ⟨u, r', e, h1, h2, h3⟩ := run_most (p := small) 8 (c :: r)
      rw [e]
      refine ⟨_, .word (u := u) (r := r') ?_ h2 h1 h3⟩
      cases u with
      | cons _ _ => simp
      | nil =>
        have e : c :: r = r' := e
        rcases h3 with h3 | h3
        · cases h3
        · exact absurd hs (h3 c (by rw [← e]; rfl))
    have fig : ∀ (q : List Nat) (f : Nat), 49 ≤ f ∧ f ≤ 57 → ∃ (n : Nat) (r' : List Nat), f :: q = numL n ++ r' ∧ 1 ≤ n ∧ n < 10 ^ 30 ∧ ((numL n).length = 30 ∨ ∀ c, r'.head? = some c → ¬ dig c) := by
      intro q f hf
      obtain ⟨u, r', e, h1, h2, h3⟩ := run_most (p := dig) 29 q
      obtain ⟨n, en, n1, n2⟩ := num_at hf.1 hf.2 h1 h2
      refine ⟨n, r', by rw [en, e]; rfl, n1, n2, ?_⟩
      rw [en]
      simpa using h3
    by_cases hf : 49 ≤ c ∧ c ≤ 57
    · obtain ⟨n, r', e, n1, n2, n3⟩ := fig r c hf
      have ei : intL (n : Int) = numL n := by unfold intL; rw [if_neg (by omega)]; rfl
      rw [e, ← ei]
      exact ⟨_, .num (n := (n : Int)) (r := r') (by simpa using n2) (.inr n3)⟩
    by_cases h0 : c = 48
    · subst h0
      have e0 : intL 0 = [48] := by decide +kernel
      have := PA'.num (d := d) (n := 0) (r := r) (by decide +kernel) (.inl rfl)
      rw [e0] at this
      exact ⟨_, this⟩
    have hm : c = 45 := by
      refine Classical.byContradiction fun hm => hb fun x hx => ?_
      cases hx
      refine ⟨hs, ?_, hm⟩
      unfold dig
      omega
    subst hm
    by_cases hr : ∀ c, r.head? = some c → ¬ (49 ≤ c ∧ c ≤ 57)
    · exact ⟨_, .minus hr⟩
    · cases r with
      | nil => exact absurd (fun c h => nomatch h) hr
      | cons f q =>
        have hf : 49 ≤ f ∧ f ≤ 57 := Classical.byContradiction fun hf => hr fun x hx => by cases hx; exact hf
        obtain ⟨n, r', e, n1, n2, n3⟩ := fig q f hf
        have ei : intL (-(n : Int)) = 45 :: numL n := by unfold intL; rw [if_pos (by omega)]; simp
        rw [e]
        have := PA'.num (d := d) (n := -(n : Int)) (r := r') (by simpa using n2) (.inr (by simpa using n3))
        rw [ei] at this
        exact ⟨_, this⟩
theorem out_all : ∀ (k : Nat) (L : List Nat), L.length ≤ k → ∀ d, d ≤ 40 → (∃ o, PB' d L o) ∧ ∀ acc, ∃ o, LR' d acc L o
  | k, L, hk, d, hd => by
    have hb : ∃ o, PB' d L o := by
      by_cases h40 : L.head? ≠ some 40 ∨ d = 40
      · exact ⟨_, .no h40⟩
      have hd' : d < 40 := by omega
      cases L with
      | nil => exact absurd (.inl (fun h => nomatch h)) h40
      | cons c r =>
        have hc : c = 40 := Classical.byContradiction fun hc => h40 (.inl fun e => hc (by injection e))
        subst hc
        by_cases h1 : r.head? = some 41
        · cases r with
          | nil => cases h1
          | cons c r => cases h1; exact ⟨_, .nil hd'⟩
        · cases k with
          | zero => exact absurd hk (by simp)
          | succ k =>
            have hk' : r.length ≤ k := by simpa using hk
            obtain ⟨o, a⟩ := pa_of (out_all k r hk' (d + 1) hd').1
            cases o with
            | no n => exact ⟨_, .bad hd' h1 a⟩
            | ok x n =>
              obtain ⟨o, l⟩ := (out_all k (r.drop n) (by rw [List.length_drop]; omega) (d + 1) hd').2 [x]
              exact ⟨_, .go hd' h1 a l⟩
    refine ⟨hb, fun acc => ?_⟩
    by_cases h41 : L.head? = some 41
    · cases L with
      | nil => cases h41
      | cons c r => cases h41; exact ⟨_, .fin⟩
    by_cases h32 : L.head? = some 32
    · cases L with
      | nil => cases h32
      | cons c r =>
        cases h32
        cases k with
        | zero => exact absurd hk (by simp)
        | succ k =>
          have hk' : r.length ≤ k := by simpa using hk
          obtain ⟨o, a⟩ := pa_of (out_all k r hk' d hd).1
          cases o with
          | no n => exact ⟨_, .bad a⟩
          | ok x n =>
            obtain ⟨o, l⟩ := (out_all k (r.drop n) (by rw [List.length_drop]; omega) d hd).2 (acc ++ [x])
            exact ⟨_, .go a l⟩
    · exact ⟨_, .no h41 h32⟩
theorem out_of (L : List Nat) : ∃ o, PB' 0 L o := (out_all _ L (Nat.le_refl _) 0 (by omega)).1
/-- how the automaton stops, told by the outcome -/
theorem going_out {L : List Nat} {o : Out} (h : PB' 0 L o) : match o with
    | .ok x n => vd 40 x ∧ (∃ ds, x = .tuple ds) ∧ L = sh x ++ L.drop n ∧ (sh x).length = n ∧ going .start 0 L = ((.fin, 0), n)
    | .no n => ∃ s d, s.isFin = false ∧ going .start 0 L = ((s, d), n) := by
  have h1 := pb_ok h (by omega)
  have h2 := pb_do h (.inl rfl)
  cases o with
  | no n => exact h2
  | ok x n =>
    obtain ⟨a, b, c, e⟩ := h1
    refine ⟨b, a, c, e, ?_⟩
    have h2 : going .start 0 L = more n (going .fin 0 (L.drop n)) := h2
    rw [h2, going_stop (s := .fin) (fun c _ => rfl)]
    rfl

/-! ### _law_wread -/
def told (z : Str) : Out → D
  | .ok x n => if n = (tl z).length then .tuple [x, .none] else .tuple [.none, .int (n : Nat)]
  | .no n => .tuple [.none, .int (n : Nat)]
def wreadF : DF := fun ds Q => match ds with
  | [.str z] => z.length ≤ sizeLine ∧ ∃ o, PB' 0 (tl z) o ∧ Q (told z o)
  | _ => False
theorem spReadX_mk {K : PySem.W.Frag} {CW : Addr} {z : Str} {o : Out} {Hs H : Hp} {Q : VK} {E : XK} (hz : z.length ≤ sizeLine) (ho : PB' 0 (tl z) o) (sm : Same Hs H)
    (h1 : ∀ x, told z o = .tuple [x, .none] → ∀ v Hs' H', Same Hs Hs' → Same Hs' H' → Same H H' → (∀ b, Hs b = none → Hs' b ≠ none → H b = none) → Rp K Hs' v x → Q v H')
    (h2 : ∀ n : Nat, told z o = .tuple [.none, .int (n : Nat)] → ∀ d H', Same H H' → H' d = some (.xd [(("place" : Str), .int (n : Nat))]) → E (.ref CW) (some d) H') : spReadX K CW [.str z] H Q E := by
  refine ⟨z, o, Hs, rfl, hz, ho, sm, ?_⟩
  cases o with
  | ok x n => exact ⟨fun e => h1 x (if_pos e), fun e => h2 n (if_neg e)⟩
  | no n => exact h2 n rfl
theorem scE : FnScope ["_law_signs", "_law_caught", "_law_told", "_law_others", "_law_place", "e"] ["_law_signs"] (defScope s__law_wread) := ⟨rfl, rfl, rfl, by decide +kernel, rfl, by decide +kernel, by decide +kernel⟩
section
variable {P : Program} {w : World} {K : PySem.W.Frag} {mg : Str → Option Value} {base : Heap} {C CW CB fI : Addr}
theorem ok_wread (T : Tx K mg) (B : C_Scribe K mg C) (TX : X_NoWriting K mg CW CB fI) : Ok P w K mg base 88 "_law_wread" ["_law_signs"] (spN K 1 .E wreadF) := by
  have O1 : OkX P w K mg base 87 "read" ["writing"] (spReadX K CW) := ok_readX T B TX
  obtain ⟨C1, g1, q1⟩ := TX.o_NoText
  obtain ⟨C2, g2, q2⟩ := TX.o_NoName
  obtain ⟨C3, g3, q3⟩ := TX.o_Standing
  obtain ⟨C4, g4, q4⟩ := TX.o_Full
  obtain ⟨C5, g5, q5⟩ := TX.o_NoMark
  obtain ⟨C6, g6, q6⟩ := TX.o_BadLine
  obtain ⟨C7, g7, q7⟩ := TX.o_NoInputs
  obtain ⟨C8, g8, q8⟩ := TX.o_NoTicks
  obtain ⟨C9, g9, q9⟩ := TX.o_NoWorths
  obtain ⟨Ca, ga, qa⟩ := TX.o_NoGoal
  obtain ⟨Cb, gb, qb⟩ := TX.o_NoPaper
  refine Ok.mk T.d__law_wread scE (fun vs H Q E h => ?_) (fun f cdv A outer s H vs Q E hr h => ?_)
  · obtain ⟨Hs, ds, Q0, _, ra, e, _⟩ := h
    rw [ra.len, e]; rfl
  obtain ⟨Hs, ds, Q0, sm, ra, el, hF, k⟩ := h
  obtain ⟨z, rfl, hz, o, ho, hq⟩ : ∃ z, ds = [.str z] ∧ z.length ≤ sizeLine ∧ ∃ o, PB' 0 (tl z) o ∧ Q0 (told z o) := by
    match ds, hF with
    | [.str z], h => exact ⟨z, rfl, h⟩
  obtain rfl : vs = [.str z] := by
    cases ra with
    | cons r1 rr => cases rr; cases r1; rfl
  refine ⟨_, pss_cons (ps_set (i := 1) scE.nd rfl (Or.inl rfl) pe_non)
    (pss_cons (ps_set (i := 2) scE.nd rfl (Or.inl rfl) pe_non)
    (pss_cons (ps_try_keep (i := 5) (tb := fun W => tAsg (tCallS (spReadX K CW) (WE W) (tCons (tVar 0) tNil)) (gName 2)) (ts := fun _ _ _ => tAsg (tVar 5) (gName 1)) rfl rfl rfl scE.nd rfl rfl ⟨rfl, by decide, .inl TX.c.gb⟩
      (fun W pn xe tk po => pss_one (ps_set (i := 2) scE.nd rfl (Or.inl rfl) (by exact (pe_fnX O1 (hr.toRoom.mono (by omega)) hr.gd (by rfl) (fun σ => passAt tk σ) (by exact (pa_cons (pv 0) pa_nil))))))
      (fun a oe cls d pn hz hf => pss_one (ps_set (i := 1) scE.nd rfl (Or.inl rfl) (by exact (pv 5)))))
    (pss_cons (ps_if (pt_cmpR op_isN (pv 1) pe_non (nomark _)) (pss_one (ps_ret (pe_tup (pa_cons (pv 2) (pa_cons pe_non pa_nil))))) pss_nil)
    (pss_cons (ps_set (i := 3) scE.nd rfl (Or.inl rfl) (pe_lst (pa_cons (pe_callB (isXd K rfl TX.xc) (by rfl) T.z_isinstance boot_isi (pa_cons (pv 1) (pa_cons (pe_glob (v := .ref C1) (by rfl) g1 rfl) pa_nil))) (pa_cons (pe_callB (isXd K rfl TX.xc) (by rfl) T.z_isinstance boot_isi (pa_cons (pv 1) (pa_cons (pe_glob (v := .ref C2) (by rfl) g2 rfl) pa_nil))) (pa_cons (pe_callB (isXd K rfl TX.xc) (by rfl) T.z_isinstance boot_isi (pa_cons (pv 1) (pa_cons (pe_glob (v := .ref C3) (by rfl) g3 rfl) pa_nil))) pa_nil)))))
    (pss_cons (ps_set (i := 3) scE.nd rfl (Or.inl rfl) (pe_op op_cat (pv 3) (pe_lst (pa_cons (pe_callB (isXd K rfl TX.xc) (by rfl) T.z_isinstance boot_isi (pa_cons (pv 1) (pa_cons (pe_glob (v := .ref C4) (by rfl) g4 rfl) pa_nil))) (pa_cons (pe_callB (isXd K rfl TX.xc) (by rfl) T.z_isinstance boot_isi (pa_cons (pv 1) (pa_cons (pe_glob (v := .ref C5) (by rfl) g5 rfl) pa_nil))) (pa_cons (pe_callB (isXd K rfl TX.xc) (by rfl) T.z_isinstance boot_isi (pa_cons (pv 1) (pa_cons (pe_glob (v := .ref C6) (by rfl) g6 rfl) pa_nil))) pa_nil))))))
    (pss_cons (ps_set (i := 3) scE.nd rfl (Or.inl rfl) (pe_op op_cat (pv 3) (pe_lst (pa_cons (pe_callB (isXd K rfl TX.xc) (by rfl) T.z_isinstance boot_isi (pa_cons (pv 1) (pa_cons (pe_glob (v := .ref C7) (by rfl) g7 rfl) pa_nil))) (pa_cons (pe_callB (isXd K rfl TX.xc) (by rfl) T.z_isinstance boot_isi (pa_cons (pv 1) (pa_cons (pe_glob (v := .ref C8) (by rfl) g8 rfl) pa_nil))) (pa_cons (pe_callB (isXd K rfl TX.xc) (by rfl) T.z_isinstance boot_isi (pa_cons (pv 1) (pa_cons (pe_glob (v := .ref C9) (by rfl) g9 rfl) pa_nil))) pa_nil))))))
    (pss_cons (ps_set (i := 3) scE.nd rfl (Or.inl rfl) (pe_op op_cat (pv 3) (pe_lst (pa_cons (pe_callB (isXd K rfl TX.xc) (by rfl) T.z_isinstance boot_isi (pa_cons (pv 1) (pa_cons (pe_glob (v := .ref Ca) (by rfl) ga rfl) pa_nil))) (pa_cons (pe_callB (isXd K rfl TX.xc) (by rfl) T.z_isinstance boot_isi (pa_cons (pv 1) (pa_cons (pe_glob (v := .ref Cb) (by rfl) gb rfl) pa_nil))) (pa_cons (pe_not (pe_callB (isXd K rfl TX.xc) (by rfl) T.z_isinstance boot_isi (pa_cons (pv 1) (pa_cons (pe_bltn (v := .ty "ValueError") (by rfl) T.z_ValueError (by decide +kernel) rfl) pa_nil)))) pa_nil))))))
    (pss_cons (ps_if (PW.pt (pw_or (pt_cmpR (inG K rfl (u65 hr.toRoom)) pe_bl (pv 3) (by rfl)) (pw_or1 (pt_not (pt_val (pe_callB (isXd K rfl TX.xc) (by rfl) T.z_isinstance boot_isi (pa_cons (pv 1) (pa_cons (pe_glob (v := .ref CW) (by rfl) TX.c.g rfl) pa_nil)))))))) (pss_one (ps_ret (pe_tup (pa_cons pe_non (pa_cons (pe_un un_neg pe_int) pa_nil))))) pss_nil)
    (pss_cons (ps_set (i := 4) scE.nd rfl (Or.inl rfl) (pe_xk TX.xc TX.c.nof (pv 1)))
    (pss_cons (ps_if (PW.pt (pw_or (pt_val (pe_callB (isiK K rfl) (by rfl) T.z_isinstance boot_isi (pa_cons (pv 4) (pa_cons (pe_bltn (v := .ty "bool") (by rfl) T.z_bool boot_bool rfl) pa_nil)))) (pw_or1 (pt_not (pt_val (pe_callB (isiK K rfl) (by rfl) T.z_isinstance boot_isi (pa_cons (pv 4) (pa_cons (pe_bltn (v := .ty "int") (by rfl) T.z_int boot_int rfl) pa_nil)))))))) (pss_one (ps_ret (pe_tup (pa_cons pe_non (pa_cons (pe_un un_neg pe_int) pa_nil))))) pss_nil)
    (pss_one (ps_ret (pe_tup (pa_cons pe_non (pa_cons (pv 4) pa_nil))))))))))))))), ?_⟩
  refine ⟨_, rfl, spReadX_mk hz ho sm (fun x e v Hs' H' g1 g2 g3 g4 g5 => ?_) (fun n e d H' g1 g2 => ?_)⟩
  · refine ⟨_, rfl, rfl, _, rfl, ifp rfl ?_⟩
    refine ⟨_, rfl, by show 2 ≤ sizeLine; decide, fun p np => ?_⟩
    have np' : Hs' p = none := by
      cases q : Hs' p with
      | none => rfl
      | some o => rw [g2 _ _ q] at np; cases np
    rw [e] at hq
    refine k _ (L2.upd Hs' p (.tup [v, .non])) _ _ hq (g1.trans (same_upd np')) (fun b o hb => ?_) (g3.trans (same_upd np)) (fun b hb hb' => ?_) (Rp.tup (SqT.of upd_same) (.cons (Rp.mono (same_upd np') g5) (.cons .non .nil)))
    · by_cases hp : b = p
      · subst hp; rw [upd_same] at hb ⊢; exact hb
      · rw [upd_ne hp] at hb ⊢; exact g2 _ _ hb
    · by_cases hp : b = p
      · subst hp
        cases q : H b with
        | none => rfl
        | some o => rw [g3 _ _ q] at np; cases np
      · rw [upd_ne hp] at hb'; exact g4 b hb hb'
  · refine ⟨TX.te, fun a ha => ⟨_, rfl, fun _ => ?_⟩⟩
    have A0 : ∀ H2 : Hp, H2 = L2.upd H' a (ExO a (.ref CW) (some d)) → H2 a = some (ExO a (.ref CW) (some d)) ∧ H2 d = some (.xd [(("place" : Str), .int (n : Nat))]) ∧ Same H H2 := fun H2 e2 => by
      subst e2
      refine ⟨upd_same, ?_, g1.trans (same_upd ha)⟩
      rw [upd_ne (fun z => by rw [z, ha] at g2; cases g2)]
      exact g2
    generalize e2 : L2.upd H' a (ExO a (.ref CW) (some d)) = H2
    obtain ⟨hA, hD, hS⟩ := A0 H2 e2.symm
    refine ⟨_, rfl, rfl, _, rfl, ifn (fun z => nomatch z) ?_⟩
    refine ⟨_, rfl, a, d, _, _, _, _, rfl, hA, hD, fun u r => r, q1, ⟨_, rfl, a, d, _, _, _, _, rfl, hA, hD, fun u r => r, q2, ⟨_, rfl, a, d, _, _, _, _, rfl, hA, hD, fun u r => r, q3, by show 3 ≤ sizeLine; decide, fun p1 n1 => ?_⟩⟩⟩
    replace hS := hS.trans (same_upd (o := HO.lst [.bl false, .bl false, .bl false]) n1)
    replace hA := same_upd (o := HO.lst [.bl false, .bl false, .bl false]) n1 _ _ hA
    replace hD := same_upd (o := HO.lst [.bl false, .bl false, .bl false]) n1 _ _ hD
    refine ⟨_, rfl, ⟨_, rfl, a, d, _, _, _, _, rfl, hA, hD, fun u r => r, q4, ⟨_, rfl, a, d, _, _, _, _, rfl, hA, hD, fun u r => r, q5, ⟨_, rfl, a, d, _, _, _, _, rfl, hA, hD, fun u r => r, q6, by show 3 ≤ sizeLine; decide, fun p2 n2 => ⟨p1, p2, _, _, rfl, rfl, same_upd n2 _ _ upd_same, upd_same, by show 6 ≤ sizeLine; decide, fun p3 n3 => ?_⟩⟩⟩⟩⟩
    replace hS := (hS.trans (same_upd (o := HO.lst [.bl false, .bl false, .bl false]) n2)).trans (same_upd (o := HO.lst ([.bl false, .bl false, .bl false] ++ [.bl false, .bl false, .bl false])) n3)
    replace hA := same_upd (o := HO.lst ([.bl false, .bl false, .bl false] ++ [.bl false, .bl false, .bl false])) n3 _ _ (same_upd (o := HO.lst [.bl false, .bl false, .bl false]) n2 _ _ hA)
    replace hD := same_upd (o := HO.lst ([.bl false, .bl false, .bl false] ++ [.bl false, .bl false, .bl false])) n3 _ _ (same_upd (o := HO.lst [.bl false, .bl false, .bl false]) n2 _ _ hD)
    refine ⟨_, rfl, ⟨_, rfl, a, d, _, _, _, _, rfl, hA, hD, fun u r => r, q7, ⟨_, rfl, a, d, _, _, _, _, rfl, hA, hD, fun u r => r, q8, ⟨_, rfl, a, d, _, _, _, _, rfl, hA, hD, fun u r => r, q9, by show 3 ≤ sizeLine; decide, fun p4 n4 => ⟨p3, p4, _, _, rfl, rfl, same_upd n4 _ _ upd_same, upd_same, by show 9 ≤ sizeLine; decide, fun p5 n5 => ?_⟩⟩⟩⟩⟩
    replace hS := (hS.trans (same_upd (o := HO.lst [.bl false, .bl false, .bl false]) n4)).trans (same_upd (o := HO.lst ([.bl false, .bl false, .bl false, .bl false, .bl false, .bl false] ++ [.bl false, .bl false, .bl false])) n5)
    replace hA := same_upd (o := HO.lst ([.bl false, .bl false, .bl false, .bl false, .bl false, .bl false] ++ [.bl false, .bl false, .bl false])) n5 _ _ (same_upd (o := HO.lst [.bl false, .bl false, .bl false]) n4 _ _ hA)
    replace hD := same_upd (o := HO.lst ([.bl false, .bl false, .bl false, .bl false, .bl false, .bl false] ++ [.bl false, .bl false, .bl false])) n5 _ _ (same_upd (o := HO.lst [.bl false, .bl false, .bl false]) n4 _ _ hD)
    refine ⟨_, rfl, ⟨_, rfl, a, d, _, _, _, _, rfl, hA, hD, fun u r => r, qa, ⟨_, rfl, a, d, _, _, _, _, rfl, hA, hD, fun u r => r, qb, ⟨_, rfl, a, d, _, _, _, _, rfl, hA, hD, fun u r => r, TX.ve, true, rfl, by show 3 ≤ sizeLine; decide, fun p6 n6 => ⟨p5, p6, _, _, rfl, rfl, same_upd n6 _ _ upd_same, upd_same, by show 12 ≤ sizeLine; decide, fun p7 n7 => ?_⟩⟩⟩⟩⟩
    replace hS := (hS.trans (same_upd (o := HO.lst [.bl false, .bl false, .bl (!true)]) n6)).trans (same_upd (o := HO.lst ([.bl false, .bl false, .bl false, .bl false, .bl false, .bl false, .bl false, .bl false, .bl false] ++ [.bl false, .bl false, .bl (!true)])) n7)
    replace hA := same_upd (o := HO.lst ([.bl false, .bl false, .bl false, .bl false, .bl false, .bl false, .bl false, .bl false, .bl false] ++ [.bl false, .bl false, .bl (!true)])) n7 _ _ (same_upd (o := HO.lst [.bl false, .bl false, .bl (!true)]) n6 _ _ hA)
    replace hD := same_upd (o := HO.lst ([.bl false, .bl false, .bl false, .bl false, .bl false, .bl false, .bl false, .bl false, .bl false] ++ [.bl false, .bl false, .bl (!true)])) n7 _ _ (same_upd (o := HO.lst [.bl false, .bl false, .bl (!true)]) n6 _ _ hD)
    refine ⟨_, rfl, .inl ⟨p7, _, rfl, .inl (SqL.of upd_same), rfl, rfl, _, rfl, ifn (by decide) ?_⟩⟩
    refine ⟨_, rfl, a, d, _, _, _, _, rfl, hA, hD, fun u r => r, TX.own, true, rfl, ifn (fun z => nomatch z) ?_⟩
    refine ⟨_, rfl, a, d, _, _, rfl, hA, hD, rfl, ?_⟩
    refine ⟨_, rfl, _, _, _, _, false, rfl, .ty "bool", .base (.int _), (by rfl), false, rfl, ifn (fun z => nomatch z) ?_⟩
    refine ⟨_, rfl, _, _, _, _, true, rfl, .ty "int", .base (.int _), (by rfl), true, rfl, ifn (fun z => nomatch z) ?_⟩
    refine ⟨_, rfl, by show 2 ≤ sizeLine; decide, fun p np => ?_⟩
    have np' : Hs p = none := by
      cases q : Hs p with
      | none => rfl
      | some o => exact absurd (np.symm.trans (hS _ _ (sm _ _ q))) (fun z => nomatch z)
    rw [e] at hq
    refine k _ (L2.upd Hs p (.tup [.non, .int (n : Nat)])) _ _ hq (same_upd np') (fun b o hb => ?_) (hS.trans (same_upd np)) (fun b hb hb' => ?_) (Rp.tup (SqT.of upd_same) (.cons .non (.cons (.int _) .nil)))
    · by_cases hp : b = p
      · subst hp; rw [upd_same] at hb ⊢; exact hb
      · rw [upd_ne hp] at hb ⊢; exact hS _ _ (sm _ _ hb)
    · by_cases hp : b = p
      · subst hp
        cases q : H b with
        | none => rfl
        | some o => exact absurd (np.symm.trans (hS _ _ q)) (fun z => nomatch z)
      · rw [upd_ne hp] at hb'; exact absurd hb hb'
end

/-! ### what is drawn -/
def wordF : DFP := fun ds n Q => match ds with
  | [] => n + 20 ≤ 1000000000 ∧ ∀ (x : Str) (n' : Nat), word x → n' ≤ n + 20 → Q (.str x) n'
  | _ => False
section
variable {P : Program} {w : World} {K : PySem.W.Frag} {mg : Str → Option Value} {base : Heap}
theorem ok__law_wword (T : Tx K mg) (O__law_take : Ok P w K mg base 2 "_law_take" ["_law_pen", "_law_many"] (spP K 1 .E takeF)) : Ok P w K mg base 3 "_law_wword" ["_law_pen"] (spP K 0 .E wordF) := by
  refine Ok.ofP (M := []) T.d__law_wword sc__law_wword rfl (by decide) (by decide) fun f cdv A outer s H E p c hr => ⟨_, _, (pss_cons (ps_set (i := 1) sc__law_wword.nd rfl (Or.inr rfl) (pe_str))
 (pss_cons (ps_set (i := 2) sc__law_wword.nd rfl (Or.inl rfl) (pe_ifExp (pt_cmpR (eqG K rfl hr.units) (pe_fn O__law_take (hr.mono (by omega)) (by rfl) (pa_cons (pv 0) (pa_cons (pe_int) (pa_nil)))) (pe_int) (nomark _)) (pe_int) (pe_op (addG K rfl) (pe_int) (pe_fn O__law_take (hr.mono (by omega)) (by rfl) (pa_cons (pv 0) (pa_cons (pe_int) (pa_nil)))))))
 (pss_one (ps_ret (joinK K rfl (pe_str) (pe_lc (own := [("_law_k", 3)]) rfl sc__law_wword.nd (pi_range1 (by rfl) T.z_range (pa_cons (pv 2) (pa_nil))) (blkOk_by (own := [("_law_k", 3)]) (N := ["_law_pen", "_law_letters", "_law_size", "_law_k"]) (sc := defScope s__law_wword) (by decide +kernel)) (fun _ _ _ _ _ => pg_nameL (i := 3) sc__law_wword.nd rfl rfl) (fun _ _ _ _ _ => pts_nil) (fun _ _ _ _ _ => pe_ix (ixG K rfl) (pv 1) (pe_fn O__law_take (hr.mono (by omega)) (by rfl) (pa_cons (pv 0) (pa_cons (pe_int) (pa_nil)))) (fun _ _ => rfl)))))))),
 (simS_seq (simS_set 1 (nm rfl) (np rfl) (sim_str _))
 (simS_cut (simS_set 2 (nm rfl) (np rfl) (sim_if (simT_test (sim_op opA_eq (sim_callP (by simp) rfl (simA_cons (sim_int _) (simA_nil))) (sim_int _))) (sim_int _) (sim_op opA_add (sim_int _) (sim_callP (by simp) rfl (simA_cons (sim_int _) (simA_nil))))))
 (simS_ret (Sim.toE (sim_join (sim_str _) (sim_lc (simI_range1 (sim_var 2 (nm rfl))) (simG_name 3 (nm rfl) (np rfl)) (simT_yes) (opA_ix (sim_var 1 (nm rfl)) (sim_callP (by simp) rfl (simA_cons (sim_int _) (simA_nil)))) (inv' rfl) (nmv rfl) (npv rfl))))))), ?_⟩
  intro ds m Q hl hF
  match ds, hl with
  | [], _ =>
  obtain ⟨hm, k⟩ := hF
  refine ⟨fun s => ∃ (size : Int) (m' : Nat), s = { δ := [none, some (.str (Str.ofString "abcdefghijklmnopqrstuvwxyz")), some (.int size), none], n := m' } ∧ 1 ≤ size ∧ size ≤ 8 ∧ m' ≤ m + 2, ?_, ?_⟩
  · refine take_ok (by (first | omega | (dsimp only; omega) | (dsimp only at *; omega))) (by decide) (by decide) fun a a0 a1 => ?_
    by_cases h : a = 0
    · exact ifp (decide_eq_true h) ⟨8, _, rfl, by decide, by decide, by (first | omega | (dsimp only; omega) | (dsimp only at *; omega))⟩
    · exact ifn (by simpa using h) (take_ok (by (first | omega | (dsimp only; omega) | (dsimp only at *; omega))) (by decide) (by decide) fun r r0 r1 => ⟨_, _, rfl, by (first | omega | (dsimp only; omega) | (dsimp only at *; omega)), by (first | omega | (dsimp only; omega) | (dsimp only at *; omega)), by (first | omega | (dsimp only; omega) | (dsimp only at *; omega))⟩)
  rintro s ⟨size, m1, rfl, s1, s2, s3⟩
  refine ⟨⟨by (first | omega | (dsimp only; omega) | (dsimp only at *; omega)), by (first | omega | (dsimp only; omega) | (dsimp only at *; omega))⟩, by rw [rgD_len]; exact small_line (by (first | omega | (dsimp only; omega) | (dsimp only at *; omega))), lcD_ind (fun i acc s => ∃ (cs : List Nat) (m' : Nat), acc = ones cs ∧ cs.length = i ∧ i ≤ 8 ∧ (∀ c ∈ cs, 97 ≤ c ∧ c ≤ 122) ∧ s = { δ := [none, some (.str (Str.ofString "abcdefghijklmnopqrstuvwxyz")), some (.int size), none], n := m' } ∧ m' ≤ m + 2 + i) ⟨[], m1, rfl, rfl, by decide, (fun c h => nomatch h), rfl, s3⟩ ?_ ?_⟩
  · rintro i d acc s N hi ⟨cs, m', rfl, hc, h8, hcs, rfl, hm'⟩ hN
    obtain ⟨hi, rfl⟩ := rgD_get hi
    refine take_ok (by (first | omega | (dsimp only; omega) | (dsimp only at *; omega))) (by decide) (by decide) fun r r0 r1 => ?_
    have e : atI (tl (Str.ofString "abcdefghijklmnopqrstuvwxyz")) r = some (97 + r.toNat) := by
      refine atI_of r.toNat (by (first | omega | (dsimp only; omega) | (dsimp only at *; omega))) ?_
      rw [tl_small, List.getElem?_map, List.getElem?_range (by (first | omega | (dsimp only; omega) | (dsimp only at *; omega)))]
      rfl
    refine ixs_ok (by decide +kernel) e ?_
    refine hN _ _ ⟨cs ++ [97 + r.toNat], _, by unfold ones; rw [List.map_append]; rfl, by rw [List.length_append, hc]; rfl, by (first | omega | (dsimp only; omega) | (dsimp only at *; omega)), fun c hc => ?_, rfl, by (first | omega | (dsimp only; omega) | (dsimp only at *; omega))⟩
    rcases List.mem_append.mp hc with h | h
    · exact hcs c h
    · rw [List.mem_singleton.mp h]; (first | omega | (dsimp only; omega) | (dsimp only at *; omega))
  · rintro acc s ⟨cs, m', rfl, hc, h8, hcs, rfl, hm'⟩
    rw [rgD_len] at hc h8 hm'
    refine ⟨_, strs_ones cs, ?_, ?_⟩
    · have e : (cs.map fun c => (⟨#[c]⟩ : Str)).map (·.length) = cs.map fun _ => 1 := by rw [List.map_map]; rfl
      rw [e]
      have e2 : ∀ cs : List Nat, (cs.map fun _ => 1).sum = cs.length := by
        intro cs
        induction cs with
        | nil => rfl
        | cons c cs ih => rw [List.map_cons, List.sum_cons, ih, List.length_cons]; omega
      rw [e2, TL.len_tl, tl_e]
      simp
      (first | omega | (dsimp only; omega) | (dsimp only at *; omega))
    · rw [join_ones]
      refine k _ _ ⟨?_, ?_, hcs⟩ (by (first | omega | (dsimp only; omega) | (dsimp only at *; omega)))
      · rw [TL.len_tl]; show 1 ≤ cs.length; (first | omega | (dsimp only; omega) | (dsimp only at *; omega))
      · rw [TL.len_tl]; show cs.length ≤ 8; (first | omega | (dsimp only; omega) | (dsimp only at *; omega))
end
/-! ### parts, trees, wide ones -/
def pc : Nat → Nat
  | 0 => 60
  | j + 1 => 60 + 3 * pc j
def pl : Nat → Nat
  | 0 => 31
  | j + 1 => 3 * pl j + 40
def partF (J : Nat) : DFP := fun ds n Q => match ds with
  | [d] => (match d with
    | .int deep => ∃ j : Nat, deep = (j : Int) ∧ j < J ∧ n + pc j ≤ 1000000000 ∧ ∀ (x : D) (n' : Nat), vd j x → (sh x).length ≤ pl j → n' ≤ n + pc j → Q x n'
    | _ => False)
  | _ => False
theorem pl_le : ∀ j : Nat, 31 ≤ pl j
  | 0 => Nat.le_refl _
  | j + 1 => by
    have := pl_le j
    show 31 ≤ 3 * pl j + 40
    (first | omega | (dsimp only; omega) | (dsimp only at *; omega))
theorem pc_le : ∀ j : Nat, 60 ≤ pc j
  | 0 => Nat.le_refl _
  | j + 1 => by
    show 60 ≤ 60 + 3 * pc j
    (first | omega | (dsimp only; omega) | (dsimp only at *; omega))
section
variable {P : Program} {w : World} {K : PySem.W.Frag} {mg : Str → Option Value} {base : Heap}
theorem ok__law_wpart (T : Tx K mg) (O__law_take : Ok P w K mg base 2 "_law_take" ["_law_pen", "_law_many"] (spP K 1 .E takeF)) (O__law_wword : Ok P w K mg base 3 "_law_wword" ["_law_pen"] (spP K 0 .E wordF)) (O__law_wnumber : Ok P w K mg base 3 "_law_wnumber" ["_law_pen"] (spP K 0 .E numF)) :
    ∀ J : Nat, Ok P w K mg base (J + 4) "_law_wpart" ["_law_pen", "_law_deep"] (spP K 1 .E (partF J))
  | 0 => (Ok.no T.d__law_wpart sc__law_wpart (spP_no fun ds n Q h => by
      match ds with
      | [d] => cases d <;> first | exact h.elim | (obtain ⟨j, _, h, _⟩ := h; (first | omega | (dsimp only; omega) | (dsimp only at *; omega)))
      | [] => exact h.elim
      | _ :: _ :: _ => exact h.elim)).mono (by (first | omega | (dsimp only; omega) | (dsimp only at *; omega)))
  | J + 1 => by
    have O__law_wpart := ok__law_wpart T O__law_take O__law_wword O__law_wnumber J
    refine Ok.ofP (M := []) T.d__law_wpart sc__law_wpart rfl (by decide) (by decide) fun f cdv A outer s H E p c hr => ⟨_, _, (pss_cons (ps_set (i := 2) sc__law_wpart.nd rfl (Or.inl rfl) (pe_fn O__law_take (hr.mono (by omega)) (by rfl) (pa_cons (pv 0) (pa_cons (pe_int) (pa_nil)))))
 (pss_cons (ps_if (pt_cmpR (eqG K rfl hr.units) (pv 2) (pe_int) (nomark _))
 (pss_one (ps_ret (pe_fn O__law_wword (hr.mono (by omega)) (by rfl) (pa_cons (pv 0) (pa_nil)))))
 (pss_nil))
 (pss_cons (ps_if (PW.pt (pw_or (pt_cmpR (eqG K rfl hr.units) (pv 2) (pe_int) (nomark _)) (pw_or1 (pt_cmpR (eqG K rfl hr.units) (pv 1) (pe_int) (nomark _)))))
 (pss_one (ps_ret (pe_fn O__law_wnumber (hr.mono (by omega)) (by rfl) (pa_cons (pv 0) (pa_nil)))))
 (pss_nil))
 (pss_one (ps_ret (pe_callTy (tupQ K rfl) (by rfl) T.z_tuple boot_tuple (pa_cons (pe_lc (own := [("_law_k", 3)]) rfl sc__law_wpart.nd (pi_range1 (by rfl) T.z_range (pa_cons (pe_fn O__law_take (hr.mono (by omega)) (by rfl) (pa_cons (pv 0) (pa_cons (pe_int) (pa_nil)))) (pa_nil))) (blkOk_by (own := [("_law_k", 3)]) (N := ["_law_pen", "_law_deep", "_law_way", "_law_k"]) (sc := defScope s__law_wpart) (by decide +kernel)) (fun _ _ _ _ _ => pg_nameL (i := 3) sc__law_wpart.nd rfl rfl) (fun _ _ _ _ _ => pts_nil) (fun _ _ _ _ _ => pe_fn O__law_wpart (hr.mono (by omega)) (by rfl) (pa_cons (pv 0) (pa_cons (pe_op op_sub (pv 1) (pe_int)) (pa_nil))))) (pa_nil)))))))),
 (simS_seq (simS_set 2 (nm rfl) (np rfl) (sim_callP (by simp) rfl (simA_cons (sim_int _) (simA_nil))))
 (simS_seq (simS_if (simT_test (sim_op opA_eq (sim_var 2 (nm rfl)) (sim_int _)))
 (simS_ret (Sim.toE (sim_callP (by simp) rfl (simA_nil))))
 (simS_next))
 (simS_seq (simS_if (simT_or (simT_test (sim_op opA_eq (sim_var 2 (nm rfl)) (sim_int _))) (simT_test (sim_op opA_eq (sim_var 1 (nm rfl)) (sim_int _))))
 (simS_ret (Sim.toE (sim_callP (by simp) rfl (simA_nil))))
 (simS_next))
 (simS_ret (Sim.toE (sim_cb caA_tup (simA_cons (sim_lc (simI_range1 (sim_callP (by simp) rfl (simA_cons (sim_int _) (simA_nil)))) (simG_name 3 (nm rfl) (np rfl)) (simT_yes) (sim_callP (by simp) rfl (simA_cons (sim_op opA_sub (sim_var 1 (nm rfl)) (sim_int _)) (simA_nil))) (inv' rfl) (nmv rfl) (npv rfl)) (simA_nil)))))))), ?_⟩
    intro ds m Q hl hF
    match ds, hl with
    | [d], _ =>
    cases d <;> first | exact hF.elim | skip
    rename_i deep
    obtain ⟨j, rfl, hj, hm, k⟩ := hF
    have hpc := pc_le j
    have hpl := pl_le j
    refine take_ok (by (first | omega | (dsimp only; omega) | (dsimp only at *; omega))) (by decide) (by decide) fun way w0 w1 => ?_
    by_cases h0 : way = 0
    · refine ifp (decide_eq_true h0) ⟨by show _ + 20 ≤ _; (first | omega | (dsimp only; omega) | (dsimp only at *; omega)), fun x n' hx hn => k _ _ (vd_word hx) ?_ (by (first | omega | (dsimp only; omega) | (dsimp only at *; omega)))⟩
      have := len_word hx
      (first | omega | (dsimp only; omega) | (dsimp only at *; omega))
    refine ifn (by simpa using h0) ?_
    by_cases h1 : way = 1
    · refine ifp (decide_eq_true h1) ⟨by show _ + 50 ≤ _; (first | omega | (dsimp only; omega) | (dsimp only at *; omega)), fun i n' hi hn => k _ _ (vd_int hi) ?_ (by (first | omega | (dsimp only; omega) | (dsimp only at *; omega)))⟩
      have := intL_len hi
      simp only [sh]
      (first | omega | (dsimp only; omega) | (dsimp only at *; omega))
    refine ifn (by simpa using h1) ?_
    by_cases h2 : (j : Int) = 0
    · refine ifp (decide_eq_true h2) ⟨by show _ + 50 ≤ _; (first | omega | (dsimp only; omega) | (dsimp only at *; omega)), fun i n' hi hn => k _ _ (vd_int hi) ?_ (by (first | omega | (dsimp only; omega) | (dsimp only at *; omega)))⟩
      have := intL_len hi
      simp only [sh]
      (first | omega | (dsimp only; omega) | (dsimp only at *; omega))
    refine ifn (by simpa using h2) ?_
    obtain ⟨i, rfl⟩ : ∃ i, j = i + 1 := ⟨j - 1, by (first | omega | (dsimp only; omega) | (dsimp only at *; omega))⟩
    have epc : pc (i + 1) = 60 + 3 * pc i := rfl
    have epl : pl (i + 1) = 3 * pl i + 40 := rfl
    refine take_ok (by (first | omega | (dsimp only; omega) | (dsimp only at *; omega))) (by decide) (by decide) fun r r0 r1 => ?_
    refine ⟨⟨by (first | omega | (dsimp only; omega) | (dsimp only at *; omega)), by (first | omega | (dsimp only; omega) | (dsimp only at *; omega))⟩, by rw [rgD_len]; exact small_line (by (first | omega | (dsimp only; omega) | (dsimp only at *; omega))), lcD_ind (fun t acc s => ∃ m' : Nat, acc.length = t ∧ t ≤ 3 ∧ (∀ x ∈ acc, vd i x ∧ (sh x).length ≤ pl i) ∧ s = { δ := [none, some (.int ((i + 1 : Nat) : Int)), some (.int way), none], n := m' } ∧ m' ≤ m + 2 + t * pc i) ⟨m + 1 + 1, rfl, by (first | omega | (dsimp only; omega) | (dsimp only at *; omega)), (fun x h => nomatch h), rfl, by (first | omega | (dsimp only; omega) | (dsimp only at *; omega))⟩ ?_ ?_⟩
    · rintro t d acc s N hi ⟨m', ha, ht, hx, rfl, hm'⟩ hN
      obtain ⟨hi, rfl⟩ := rgD_get hi
      have h3 : t * pc i ≤ 2 * pc i := Nat.mul_le_mul_right _ (by (first | omega | (dsimp only; omega) | (dsimp only at *; omega)))
      refine ⟨i, by show ((i + 1 : Nat) : Int) - 1 = _; (first | omega | (dsimp only; omega) | (dsimp only at *; omega)), by (first | omega | (dsimp only; omega) | (dsimp only at *; omega)), by (first | omega | (dsimp only; omega) | (dsimp only at *; omega)), fun x n' v1 v2 v3 => hN _ _ ⟨n', by rw [List.length_append, ha]; rfl, by (first | omega | (dsimp only; omega) | (dsimp only at *; omega)), fun y hy => ?_, rfl, ?_⟩⟩
      · rcases List.mem_append.mp hy with h | h
        · exact hx y h
        · rw [List.mem_singleton.mp h]; exact ⟨v1, v2⟩
      · rw [Nat.succ_mul]
        have v3 : n' ≤ m' + pc i := v3
        (first | omega | (dsimp only; omega) | (dsimp only at *; omega))
    · rintro acc s ⟨m', ha, ht, hx, rfl, hm'⟩
      rw [rgD_len] at ha ht hm'
      have h3 : r.toNat * pc i ≤ 3 * pc i := Nat.mul_le_mul_right _ (by (first | omega | (dsimp only; omega) | (dsimp only at *; omega)))
      refine k _ _ (show vd (i + 1) (.tuple acc) from fun x h => (hx x h).1) ?_ (by show m' ≤ _; (first | omega | (dsimp only; omega) | (dsimp only at *; omega)))
      have h4 := tup_len fun x h => (hx x h).2
      have h5 : acc.length * (pl i + 1) ≤ 3 * (pl i + 1) := Nat.mul_le_mul_right _ (by (first | omega | (dsimp only; omega) | (dsimp only at *; omega)))
      (first | omega | (dsimp only; omega) | (dsimp only at *; omega))
def treeF : DFP := fun ds n Q => match ds with
  | [d] => (match d with
    | .int deep => 1 ≤ deep ∧ deep ≤ 40 ∧ n + 100000 ≤ 1000000000 ∧ ∀ (xs : List D) (n' : Nat), vd 40 (.tuple xs) → (sh (.tuple xs)).length ≤ 100000 → n' ≤ n + 100000 → Q (.tuple xs) n'
    | _ => False)
  | _ => False
theorem tup_of {xs : List D} {b c : Nat} {found : List D} {j : Nat} (hx : ∀ x ∈ xs, (sh x).length ≤ b) (hf : (sh (.tuple found)).length ≤ c) (hl : xs.length ≤ 2) (hj : j ≤ xs.length) (ys : List D) (e : ys = xs.take j ++ [(PyData.tuple found : D)] ++ xs.drop j) : (sh (.tuple ys)).length ≤ 2 + (2 * (b + 1) + (c + 1)) := by
  have lem : ∀ {ds : List D} {n : Nat}, (ds.map fun d => (sh d).length + 1).sum ≤ n → (sh (.tuple ds)).length ≤ 2 + n := by
    intro ds
    have : ∀ {ds : List D}, (joinL [32] (shL ds)).length ≤ (ds.map fun d => (sh d).length + 1).sum := by
      intro ds
      induction ds with
      | nil => simp [shL, joinL]
      | cons e ds ih =>
        simp only [shL]
        rw [join_tail, List.length_append, List.map_cons, List.sum_cons]
        cases ds with
        | nil => simp [shL, tailL]
        | cons e2 r =>
          simp only [shL] at ih ⊢
          rw [join_tail, List.length_append] at ih
          rw [tail_cons, List.length_cons, List.length_append]
          (first | omega | (dsimp only; omega) | (dsimp only at *; omega))
    intro n h
    have := this (ds := ds)
    simp only [sh]
    rw [List.length_cons, List.length_append, List.length_singleton]
    (first | omega | (dsimp only; omega) | (dsimp only at *; omega))
  apply lem
  subst e
  have e1 : ((xs.take j ++ [(PyData.tuple found : D)] ++ xs.drop j).map fun d => (sh d).length + 1).sum = (xs.map fun d => (sh d).length + 1).sum + ((sh (.tuple found)).length + 1) := by
    conv => rhs; rw [← List.take_append_drop j xs]
    simp only [List.map_append, List.sum_append, List.map_cons, List.map_nil, List.sum_cons, List.sum_nil]
    (first | omega | (dsimp only; omega) | (dsimp only at *; omega))
  rw [e1]
  have e2 : (xs.map fun d => (sh d).length + 1).sum ≤ 2 * (b + 1) := by
    match xs, hl, hx with
    | [], _, _ => simp
    | [x], _, hx =>
      have := hx x (by simp)
      simp
      (first | omega | (dsimp only; omega) | (dsimp only at *; omega))
    | [x, y], _, hx =>
      have := hx x (by simp)
      have := hx y (by simp)
      simp
      (first | omega | (dsimp only; omega) | (dsimp only at *; omega))
  (first | omega | (dsimp only; omega) | (dsimp only at *; omega))
theorem ok__law_wtree (T : Tx K mg) (O__law_take : Ok P w K mg base 2 "_law_take" ["_law_pen", "_law_many"] (spP K 1 .E takeF)) (O__law_wpart : Ok P w K mg base 7 "_law_wpart" ["_law_pen", "_law_deep"] (spP K 1 .E (partF 3))) : Ok P w K mg base 8 "_law_wtree" ["_law_pen", "_law_deep"] (spP K 1 .E treeF) := by
  refine Ok.ofP (M := []) T.d__law_wtree sc__law_wtree rfl (by decide) (by decide) fun f cdv A outer s H E p c hr => ⟨_, _, (pss_cons (ps_set (i := 2) sc__law_wtree.nd rfl (Or.inl rfl) (pe_callTy (tupQ K rfl) (by rfl) T.z_tuple boot_tuple (pa_cons (pe_lc (own := [("_law_k", 3)]) rfl sc__law_wtree.nd (pi_range1 (by rfl) T.z_range (pa_cons (pe_fn O__law_take (hr.mono (by omega)) (by rfl) (pa_cons (pv 0) (pa_cons (pe_int) (pa_nil)))) (pa_nil))) (blkOk_by (own := [("_law_k", 3)]) (N := ["_law_pen", "_law_deep", "_law_found", "_law_k", "_law_row", "_law_turn", "_law_at"]) (sc := defScope s__law_wtree) (by decide +kernel)) (fun _ _ _ _ _ => pg_nameL (i := 3) sc__law_wtree.nd rfl rfl) (fun _ _ _ _ _ => pts_nil) (fun _ _ _ _ _ => pe_fn O__law_wpart (hr.mono (by omega)) (by rfl) (pa_cons (pv 0) (pa_cons (pe_int) (pa_nil))))) (pa_nil))))
 (pss_cons (ps_for PassesOwn.never rfl (pi_range2 (by rfl) T.z_range (pa_cons (pe_int) (pa_cons (pv 1) (pa_nil)))) (pg_name (i := 3) sc__law_wtree.nd rfl (Or.inr rfl))
 (pss_cons (ps_setLc (i := 4) (own := [("_law_turn", 5)]) rfl sc__law_wtree.nd rfl rfl (sw_true rfl rfl rfl (by decide +kernel)) (pi_range1 (by rfl) T.z_range (pa_cons (pe_ix (ixG K rfl) (pe_lst (pa_cons (pe_int) (pa_cons (pe_int) (pa_cons (pe_int) (pa_cons (pe_int) (pa_nil)))))) (pe_fn O__law_take (hr.mono (by omega)) (by rfl) (pa_cons (pv 0) (pa_cons (pe_int) (pa_nil)))) (fun _ _ => rfl)) (pa_nil))) (blkOk_by (own := [("_law_turn", 5)]) (N := ["_law_pen", "_law_deep", "_law_found", "_law_k", "_law_row", "_law_turn", "_law_at"]) (sc := defScope s__law_wtree) (by decide +kernel)) (fun _ _ _ _ _ => pg_nameL (i := 5) sc__law_wtree.nd rfl rfl) (fun _ _ _ _ _ => pts_nil) (fun _ _ _ _ _ => pe_fn O__law_wpart (hr.mono (by omega)) (by rfl) (pa_cons (pv 0) (pa_cons (pe_callB (call_min2 rfl) (by rfl) T.z_min boot_min (pa_cons (pv 3) (pa_cons (pe_int) (pa_nil)))) (pa_nil)))))
 (pss_cons (ps_set (i := 6) sc__law_wtree.nd rfl (Or.inl rfl) (pe_fn O__law_take (hr.mono (by omega)) (by rfl) (pa_cons (pv 0) (pa_cons (pe_op (addG K rfl) (pe_callB (lenG K rfl) (by rfl) T.z_len boot_len (pa_cons (pv 4) (pa_nil))) (pe_int)) (pa_nil)))))
 (pss_one (ps_set (i := 2) sc__law_wtree.nd rfl (Or.inl rfl) (pe_callTy (tupQ K rfl) (by rfl) T.z_tuple boot_tuple (pa_cons (pe_op (addG K rfl) (pe_op (addG K rfl) (pe_slice (slG K rfl) (pv 4) po_none (po_some (pv 6))) (pe_lst (pa_cons (pv 2) (pa_nil)))) (pe_slice (slG K rfl) (pv 4) (po_some (pv 6)) po_none)) (pa_nil))))))))
 (pss_one (ps_ret (pv 2))))),
 (simS_seq (simS_set 2 (nm rfl) (np rfl) (sim_cb caA_tup (simA_cons (sim_lc (simI_range1 (sim_callP (by simp) rfl (simA_cons (sim_int _) (simA_nil)))) (simG_name 3 (nm rfl) (np rfl)) (simT_yes) (sim_callP (by simp) rfl (simA_cons (sim_int _) (simA_nil))) (inv' rfl) (nmv rfl) (npv rfl)) (simA_nil))))
 (simS_cut (simS_for (simI_range2 (sim_int _) (sim_var 1 (nm rfl))) (simG_name 3 (nm rfl) (np rfl))
 (simS_cut (simS_set 4 (nm rfl) (np rfl) (sim_lc (simI_range1 (opA_ix (sim_lst (by decide) (simA_cons (sim_int _) (simA_cons (sim_int _) (simA_cons (sim_int _) (simA_cons (sim_int _) (simA_nil)))))) (sim_callP (by simp) rfl (simA_cons (sim_int _) (simA_nil))))) (simG_name 5 (nm rfl) (np rfl)) (simT_yes) (sim_callP (by simp) rfl (simA_cons (sim_cb caA_min (simA_cons (sim_var 3 (nm rfl)) (simA_cons (sim_int _) (simA_nil)))) (simA_nil))) (inv' rfl) (nmv rfl) (npv rfl)))
 (simS_seq (simS_set 6 (nm rfl) (np rfl) (sim_callP (by simp) rfl (simA_cons (sim_op opA_add (sim_cb caA_len (simA_cons (sim_var 4 (nm rfl)) (simA_nil))) (sim_int _)) (simA_nil))))
 (simS_set 2 (nm rfl) (np rfl) (sim_cb caA_tup (simA_cons (sim_op opA_add (sim_op opA_add (sim_sl (sim_var 4 (nm rfl)) simO_none (simO_some (sim_var 6 (nm rfl)))) (sim_lst (by decide) (simA_cons (sim_var 2 (nm rfl)) (simA_nil)))) (sim_sl (sim_var 4 (nm rfl)) (simO_some (sim_var 6 (nm rfl))) simO_none)) (simA_nil)))))))
 (simS_ret (Sim.toE (sim_var 2 (nm rfl)))))), ?_⟩
  intro ds m Q hl hF
  match ds, hl with
  | [d], _ =>
  cases d <;> first | exact hF.elim | skip
  rename_i deep _
  obtain ⟨d1, d2, hm, k⟩ := hF
  refine take_ok (by (first | omega | (dsimp only; omega) | (dsimp only at *; omega))) (by decide) (by decide) fun r r0 r1 => ?_
  refine ⟨⟨by (first | omega | (dsimp only; omega) | (dsimp only at *; omega)), by (first | omega | (dsimp only; omega) | (dsimp only at *; omega))⟩, by rw [rgD_len]; exact small_line (by (first | omega | (dsimp only; omega) | (dsimp only at *; omega))), lcD_ind (fun t acc s => ∃ m' : Nat, acc.length = t ∧ t ≤ 3 ∧ (∀ x ∈ acc, vd 0 x ∧ (sh x).length ≤ 31) ∧ s = { δ := [none, some (.int deep), none, none, none, none, none], n := m' } ∧ m' ≤ m + 1 + t * 60) ⟨m + 1, rfl, by (first | omega | (dsimp only; omega) | (dsimp only at *; omega)), (fun x h => nomatch h), rfl, by (first | omega | (dsimp only; omega) | (dsimp only at *; omega))⟩ ?_ ?_⟩
  · rintro t d acc s N hi ⟨m', ha, ht, hx, rfl, hm'⟩ hN
    obtain ⟨hi, rfl⟩ := rgD_get hi
    refine ⟨0, rfl, by (first | omega | (dsimp only; omega) | (dsimp only at *; omega)), by show _ + 60 ≤ _; (first | omega | (dsimp only; omega) | (dsimp only at *; omega)), fun x n' v1 v2 v3 => hN _ _ ⟨n', by rw [List.length_append, ha]; rfl, by (first | omega | (dsimp only; omega) | (dsimp only at *; omega)), fun y hy => ?_, rfl, ?_⟩⟩
    · rcases List.mem_append.mp hy with h | h
      · exact hx y h
      · rw [List.mem_singleton.mp h]; exact ⟨v1, v2⟩
    · have v3 : n' ≤ m' + 60 := v3
      (first | omega | (dsimp only; omega) | (dsimp only at *; omega))
  rintro acc s ⟨m1, ha, ht, hx, rfl, hm1⟩
  rw [rgD_len] at ha ht hm1
  have hl0 := tup_len fun x h => (hx x h).2
  refine ⟨fun s => ∃ (xs : List D) (m' : Nat) (a b c d : Option D), vd 40 (.tuple xs) ∧ (sh (.tuple xs)).length ≤ 100000 ∧ s = { δ := [none, some (.int deep), some (.tuple xs), a, b, c, d], n := m' } ∧ m' ≤ m + 100000, ?_, ?_⟩
  · refine ⟨⟨by decide, by decide, by (first | omega | (dsimp only; omega) | (dsimp only at *; omega)), by (first | omega | (dsimp only; omega) | (dsimp only at *; omega))⟩, forD_ind (fun i s => ∃ (xs : List D) (m' : Nat) (a b c d : Option D), i ≤ 39 ∧ vd (i + 1) (.tuple xs) ∧ (sh (.tuple xs)).length ≤ 200 + i * 1000 ∧ s = { δ := [none, some (.int deep), some (.tuple xs), a, b, c, d], n := m' } ∧ m' ≤ m + 300 + i * 2000)
      ⟨acc, m1, none, none, none, none, by (first | omega | (dsimp only; omega) | (dsimp only at *; omega)), fun x h => (hx x h).1, by rw [ha] at hl0; (first | omega | (dsimp only; omega) | (dsimp only at *; omega)), rfl, by (first | omega | (dsimp only; omega) | (dsimp only at *; omega))⟩ ?_ ?_⟩
    · rintro i dd s N hd ⟨xs, m', a, b, c', d', hi39, hv, hz, rfl, hm'⟩ hN
      obtain ⟨hi, rfl⟩ := rgD_get hd
      have hi38 : i < 39 := by (first | omega | (dsimp only; omega) | (dsimp only at *; omega))
      -- the row
      refine ⟨fun s => ∃ (ys : List D) (m' : Nat) (c d : Option D), ys.length ≤ 2 ∧ (∀ y ∈ ys, vd (i + 1) y ∧ (sh y).length ≤ 439) ∧ s = { δ := [none, some (.int deep), some (.tuple xs), some (.int (1 + (i : Nat))), some (.list ys), c, d], n := m' } ∧ m' ≤ m + 300 + i * 2000 + 1 + 2 * 780, ?_, ?_⟩
      · refine take_ok (by (first | omega | (dsimp only; omega) | (dsimp only at *; omega))) (by decide) (by decide) fun r r0 r1 => ?_
        obtain ⟨n, hn2, hget⟩ : ∃ n : Nat, n ≤ 2 ∧ ([.int 0, .int 1, .int 0, .int 2] : List D)[r.toNat]? = some (.int (n : Int)) := by
          have hr : r = 0 ∨ r = 1 ∨ r = 2 ∨ r = 3 := by omega
          rcases hr with rfl | rfl | rfl | rfl
          · exact ⟨0, by decide, rfl⟩
          · exact ⟨1, by decide, rfl⟩
          · exact ⟨0, by decide, rfl⟩
          · exact ⟨2, by decide, rfl⟩
        refine ix_ok r.toNat (by omega) hget ?_
        refine ⟨⟨by omega, by omega⟩, by rw [rgD_len]; exact small_line (by omega), lcD_ind (fun t acc s => ∃ m'' : Nat, acc.length = t ∧ t ≤ 2 ∧ (∀ x ∈ acc, vd (i + 1) x ∧ (sh x).length ≤ 439) ∧ s = { δ := [none, some (.int deep), some (.tuple xs), some (.int (1 + (i : Nat))), b, none, d'], n := m'' } ∧ m'' ≤ m' + 1 + t * 780) ⟨m' + 1, rfl, by omega, (fun x h => nomatch h), rfl, by omega⟩ ?_ ?_⟩
        · rintro t dd acc s N hi ⟨m'', ha, ht, hx, rfl, hm''⟩ hN
          obtain ⟨hi, rfl⟩ := rgD_get hi
          have emin : ∃ j : Nat, (if (2 : Int) < 1 + (i : Nat) then (2 : Int) else 1 + (i : Nat)) = (j : Int) ∧ j < 3 ∧ pc j ≤ 780 ∧ pl j ≤ 439 ∧ j ≤ i + 1 := by
            by_cases h2 : 2 < i + 1
            · exact ⟨2, by rw [if_pos (by omega)]; rfl, by decide, by decide, by decide, by omega⟩
            · rw [if_neg (by omega)]
              refine ⟨i + 1, by omega, by omega, ?_, ?_, Nat.le_refl _⟩
              · have : i = 0 ∨ i = 1 := by omega
                rcases this with rfl | rfl <;> decide
              · have : i = 0 ∨ i = 1 := by omega
                rcases this with rfl | rfl <;> decide
          obtain ⟨j, e1, e2, e3, e4, e5⟩ := emin
          refine ⟨j, e1, e2, ?_, fun x n' v1 v2 v3 => hN _ _ ⟨n', by rw [List.length_append, ha]; rfl, by omega, fun y hy => ?_, rfl, ?_⟩⟩
          · show m'' + pc j ≤ 1000000000
            omega
          · rcases List.mem_append.mp hy with h | h
            · exact hx y h
            · rw [List.mem_singleton.mp h]; exact ⟨vd_mono v1 e5, by omega⟩
          · have v3 : n' ≤ m'' + pc j := v3
            omega
        · rintro acc s ⟨m'', ha, ht, hx, rfl, hm''⟩
          rw [rgD_len] at ha ht hm''
          exact ⟨acc, m'', _, _, by omega, hx, rfl, by omega⟩
      rintro s ⟨ys, m2, c2, d2', hy, hys, rfl, hm2⟩
      refine take_ok (by (first | omega | (dsimp only; omega) | (dsimp only at *; omega))) (by (first | omega | (dsimp only; omega) | (dsimp only at *; omega))) (by (first | omega | (dsimp only; omega) | (dsimp only at *; omega))) fun r r0 r1 => ?_
      obtain ⟨j, rfl⟩ : ∃ j : Nat, r = (j : Int) := ⟨r.toNat, by (first | omega | (dsimp only; omega) | (dsimp only at *; omega))⟩
      have hj : j ≤ ys.length := by (first | omega | (dsimp only; omega) | (dsimp only at *; omega))
      have e1 : cutD ys none (some (j : Int)) = ys.take j := cutD_to ys j
      have e2 : cutD ys (some (j : Int)) none = ys.drop j := cutD_from ys j hj
      refine ⟨?_, ?_, ?_⟩
      · rw [e1]; refine small_line ?_; rw [List.length_take]; show _ + 1 ≤ 1000; (first | omega | (dsimp only; omega) | (dsimp only at *; omega))
      · rw [e1, e2]; refine small_line ?_; rw [List.length_append, List.length_take, List.length_drop]; show _ + 1 + _ ≤ 1000; (first | omega | (dsimp only; omega) | (dsimp only at *; omega))
      rw [e1, e2]
      refine hN _ ⟨_, _, _, _, _, _, by (first | omega | (dsimp only; omega) | (dsimp only at *; omega)), ?_, ?_, rfl, by show m2 + 1 ≤ _; (first | omega | (dsimp only; omega) | (dsimp only at *; omega))⟩
      · intro x hx
        rcases List.mem_append.mp hx with hx | hx
        · rcases List.mem_append.mp hx with hx | hx
          · exact (hys x (List.mem_of_mem_take hx)).1
          · rw [List.mem_singleton.mp hx]; exact hv
        · exact (hys x (List.mem_of_mem_drop hx)).1
      · have := tup_of (fun x h => (hys x h).2) hz hy hj _ rfl
        (first | omega | (dsimp only; omega) | (dsimp only at *; omega))
    · rintro s ⟨xs, m', a, b, c', d', hi39, hv, hz, rfl, hm'⟩
      rw [rgD_len] at hi39 hv hz hm'
      exact ⟨xs, m', a, b, c', d', vd_mono hv (by (first | omega | (dsimp only; omega) | (dsimp only at *; omega))), by (first | omega | (dsimp only; omega) | (dsimp only at *; omega)), rfl, by (first | omega | (dsimp only; omega) | (dsimp only at *; omega))⟩
  rintro s ⟨xs, m', a, b, c', d', hv, hz, rfl, hm'⟩
  exact k xs m' hv hz hm'
end

/-! ### the law's own words -/
def leafF : DF := fun ds Q => match ds with
  | [.str x] => word x ∧ Q (.bool true)
  | [.int _] => Q (.bool true)
  | _ => False
def goodF : Nat → DF
  | 0 => fun _ _ => False
  | k + 1 => fun ds Q => match ds with
    | [d] => vd k d ∧ (sh d).length ≤ 1000000 ∧ Q (.bool (match d with | .tuple _ => true | _ => false))
    | _ => False
def Aut.nm : Aut → String
  | .start => "start" | .opn => "open" | .word _ => "word" | .minus => "minus" | .number _ => "number" | .nought => "nought" | .blank => "blank" | .behind => "behind" | .fin => "end"
def Aut.many : Aut → Nat
  | .word m => m
  | .number m => m
  | _ => 0
def stD (s : Aut) (d : Nat) : D := .tuple [.str (Str.ofString s.nm), .int (s.many : Nat), .int (d : Nat)]
def Aut.dp : Aut → Nat → Prop
  | .start, _ => True
  | .fin, _ => True
  | _, d => 1 ≤ d
def afterD : Option (Aut × Nat) → D
  | none => .tuple [.str (Str.ofString ""), .int 0, .int 0]
  | some (s, d) => stD s d
def stepF : DF := fun ds Q => (∃ (s : Aut) (d c : Nat), ds = [.str (Str.ofString s.nm), .int (s.many : Nat), .int (d : Nat), .str ⟨#[c]⟩] ∧ s.dp d ∧ Q (afterD (stp s d c))) ∨
  ∃ c : Nat, ds = [.str (Str.ofString ""), .int 0, .int 0, .str ⟨#[c]⟩] ∧ Q (afterD none)
theorem bools_rep : ∀ n : Nat, boolsOf (List.replicate n (.bool true)) = some (List.replicate n true)
  | 0 => rfl
  | n + 1 => by
    rw [List.replicate_succ, List.replicate_succ]
    show (boolsOf (List.replicate n (.bool true))).map _ = _
    rw [bools_rep n]
    rfl
theorem all_rep (n : Nat) : (List.replicate n true).all id = true := List.all_eq_true.mpr fun x h => by rw [List.eq_of_mem_replicate h]; rfl
theorem andV_t {a b : DT} {s s' : S} {Q : D → S → Prop} (ha : ∀ R : D → S → Prop, R (.bool true) s' → a s R) (hb : b s' Q) : dAndV a b s Q := ha _ hb
theorem chain_c {db : DT} {s s' : S} {i j k : Int} {Q : D → S → Prop} (h1 : i ≤ j) (h2 : j ≤ k) (hb : ∀ R : D → S → Prop, R (.int j) s' → db s R) (q : Q (.bool true) s') :
    dChain (cmpD fun i j => decide (i ≤ j)) (cmpD fun i j => decide (i ≤ j)) (dC (.int i)) db (dC (.int k)) s Q := by
  refine hb _ ?_
  have e1 : decide (i ≤ j) = true := decide_eq_true h1
  have e2 : decide (j ≤ k) = true := decide_eq_true h2
  simp only [cmpD, e1, dC, e2]
  exact q
theorem in_textD {x : Str} {c : Nat} {Q : Bool → Prop} (h : Q (decide (c ∈ tl x))) : Q (xor false (!(Builtin.Str.occurrences x ⟨#[c]⟩ 0 x.length 1).isEmpty)) := by
  rw [Bool.false_xor, StrLaws.found_one]
  exact h
/-! a test's worth -/
def Tst (t : DB) (s : S) (b : Bool) : Prop := ∀ Q : Bool → S → Prop, Q b s → t s Q
theorem tst_and {a b : DB} {s : S} {x y : Bool} (h1 : Tst a s x) (h2 : Tst b s y) : Tst (dAnd a b) s (x && y) := fun Q q => h1 _ (by
  cases x with
  | true => exact ifp rfl (h2 _ q)
  | false => exact ifn Bool.false_ne_true q)
theorem tst_and0 {a b : DB} {s : S} (h1 : Tst a s false) : Tst (dAnd a b) s false := fun Q q => h1 _ (ifn Bool.false_ne_true q)
theorem tst_or {a b : DB} {s : S} {x y : Bool} (h1 : Tst a s x) (h2 : Tst b s y) : Tst (dOr a b) s (x || y) := fun Q q => h1 _ (by
  cases x with
  | true => exact ifp rfl q
  | false => exact ifn Bool.false_ne_true (h2 _ q))
theorem seqIf {t : DB} {a r : DSt} {E : DEnds} {s : S} {b : Bool} (h : Tst t s b) (h1 : b = true → a { E with nx := r E } s) (h2 : b = false → r E s) : dSeq (dIfS t a dNext) r E s := h _ (by
  cases b with
  | true => exact ifp rfl (h1 rfl)
  | false => exact ifn Bool.false_ne_true (h2 rfl))
theorem seqSet {i : Nat} {d : D} {r : DSt} {E : DEnds} {s : S} (h : r E { s with δ := s.δ.set i (some d) }) : dSeq (dSet i (dC d)) r E s := h
theorem in_text {x : Str} {c : Nat} (Q : Bool → S → Prop) (s : S) (h : Q (decide (c ∈ tl x)) s) : Q (xor false (!(Builtin.Str.occurrences x ⟨#[c]⟩ 0 x.length 1).isEmpty)) s := by
  rw [Bool.false_xor, StrLaws.found_one]
  exact h
theorem one_is {c k : Nat} {x : Str} (h : tl x = [k]) : decide ((⟨#[c]⟩ : Str) = x) = decide (c = k) := by
  rw [Bool.eq_iff_iff, decide_eq_true_eq, decide_eq_true_eq]
  constructor
  · intro e
    have := congrArg tl e
    rw [h] at this
    have : [c] = [k] := this
    injection this
  · intro e
    refine TL.ext_tl ?_
    rw [h, e]
def Aut.isA : Aut → Bool
  | .start => true | .opn => true | .blank => true | _ => false
def Aut.isB : Aut → Bool
  | .opn => true | .word _ => true | .number _ => true | .nought => true | .behind => true | _ => false
def Aut.isC : Aut → Bool
  | .word _ => true | .number _ => true | .nought => true | .behind => true | _ => false
def Aut.isD : Aut → Bool
  | .opn => true | .blank => true | _ => false
def Aut.isE : Aut → Bool
  | .opn => true | .blank => true | .minus => true | _ => false
def Aut.isW : Aut → Bool
  | .word _ => true | _ => false
def Aut.isN : Aut → Bool
  | .number _ => true | _ => false
theorem aA (s : Aut) : ([.str (Str.ofString "start"), .str (Str.ofString "open"), .str (Str.ofString "blank")] : List D).any (fun z => eqF z (.str (Str.ofString s.nm))) = s.isA := by cases s <;> simp only [Aut.nm, Aut.isA] <;> decide +kernel
theorem aB (s : Aut) : ([.str (Str.ofString "open"), .str (Str.ofString "word"), .str (Str.ofString "number"), .str (Str.ofString "nought"), .str (Str.ofString "behind")] : List D).any (fun z => eqF z (.str (Str.ofString s.nm))) = s.isB := by cases s <;> simp only [Aut.nm, Aut.isB] <;> decide +kernel
theorem aC (s : Aut) : ([.str (Str.ofString "word"), .str (Str.ofString "number"), .str (Str.ofString "nought"), .str (Str.ofString "behind")] : List D).any (fun z => eqF z (.str (Str.ofString s.nm))) = s.isC := by cases s <;> simp only [Aut.nm, Aut.isC] <;> decide +kernel
theorem aD (s : Aut) : ([.str (Str.ofString "open"), .str (Str.ofString "blank")] : List D).any (fun z => eqF z (.str (Str.ofString s.nm))) = s.isD := by cases s <;> simp only [Aut.nm, Aut.isD] <;> decide +kernel
theorem aE (s : Aut) : ([.str (Str.ofString "open"), .str (Str.ofString "blank"), .str (Str.ofString "minus")] : List D).any (fun z => eqF z (.str (Str.ofString s.nm))) = s.isE := by cases s <;> simp only [Aut.nm, Aut.isE] <;> decide +kernel
theorem aW : ∀ s : Aut, decide (Str.ofString s.nm = Str.ofString "word") = s.isW
  | .start => by decide +kernel
  | .opn => by decide +kernel
  | .word _ => (by decide +kernel : decide (Str.ofString "word" = Str.ofString "word") = true)
  | .minus => by decide +kernel
  | .number _ => (by decide +kernel : decide (Str.ofString "number" = Str.ofString "word") = false)
  | .nought => by decide +kernel
  | .blank => by decide +kernel
  | .behind => by decide +kernel
  | .fin => by decide +kernel
theorem aN : ∀ s : Aut, decide (Str.ofString s.nm = Str.ofString "number") = s.isN
  | .start => by decide +kernel
  | .opn => by decide +kernel
  | .word _ => (by decide +kernel : decide (Str.ofString "word" = Str.ofString "number") = false)
  | .minus => by decide +kernel
  | .number _ => (by decide +kernel : decide (Str.ofString "number" = Str.ofString "number") = true)
  | .nought => by decide +kernel
  | .blank => by decide +kernel
  | .behind => by decide +kernel
  | .fin => by decide +kernel
theorem in_nms {L : List D} {x : D} {b : Bool} (h : L.any (fun z => eqF z x) = b) (Q : Bool → S → Prop) (s : S) (q : Q b s) : Q (xor false (L.any fun z => eqF z x)) s := by
  rw [Bool.false_xor, h]
  exact q
theorem mem_fig1 {c : Nat} : c ∈ tl (Str.ofString "123456789") ↔ 49 ≤ c ∧ c ≤ 57 := by
  rw [show tl (Str.ofString "123456789") = [49, 50, 51, 52, 53, 54, 55, 56, 57] by decide +kernel]
  simp only [List.mem_cons, List.not_mem_nil, or_false]
  omega
section
variable {P : Program} {w : World} {K : PySem.W.Frag} {mg : Str → Option Value} {base : Heap}
theorem ok__law_wleaf (T : Tx K mg) : Ok P w K mg base 1 "_law_wleaf" ["_law_thing"] (spN K 1 .E leafF) := by
  refine Ok.ofN (M := []) T.d__law_wleaf sc__law_wleaf rfl (by decide) fun f cdv A outer s H E hr => ⟨_, _, (pss_cons (ps_if (pt_val (pe_callB (isiK K rfl) (by rfl) T.z_isinstance boot_isi (pa_cons (pv 0) (pa_cons (pe_bltn (v := .ty "str") (by rfl) T.z_str boot_str rfl) pa_nil))))
 (pss_one (ps_ret (pe_and (pe_chain op_le op_le (pe_int) (pe_callB (lenG K rfl) (by rfl) T.z_len boot_len (pa_cons (pv 0) (pa_nil))) (pe_int)) (pe_one (pe_callB (allK K rfl rfl) (by rfl) T.z_all boot_all (pa_cons (pe_lc (own := [("_law_sign", 1)]) rfl sc__law_wleaf.nd (pi_str (pv 0)) (blkOk_by (own := [("_law_sign", 1)]) (N := ["_law_thing", "_law_sign"]) (sc := defScope s__law_wleaf) (by decide +kernel)) (fun _ _ _ _ _ => pg_nameL (i := 1) sc__law_wleaf.nd rfl rfl) (fun _ _ _ _ _ => pts_nil) (fun _ _ _ _ _ => pe_cmpR (inG K rfl (u65 hr.toRoom)) (pv 1) (pe_str) (by rfl))) (pa_nil)))))))
 (pss_nil))
 (pss_one (ps_ret (pe_and (pe_callB (isiK K rfl) (by rfl) T.z_isinstance boot_isi (pa_cons (pv 0) (pa_cons (pe_bltn (v := .ty "int") (by rfl) T.z_int boot_int rfl) pa_nil))) (pe_one (pe_not (pe_callB (isiK K rfl) (by rfl) T.z_isinstance boot_isi (pa_cons (pv 0) (pa_cons (pe_bltn (v := .ty "bool") (by rfl) T.z_bool boot_bool rfl) pa_nil))))))))),
 (simS_seq (simS_if (simT_B (sim_isi .str (sim_var 0 (nm rfl))))
 (simS_ret (Sim.toE (sim_andV (sim_chain (opA_cmp _) (opA_cmp _) (sim_int _) (sim_cb caA_len (simA_cons (sim_var 0 (nm rfl)) (simA_nil))) (sim_int _)) (sim_cb caA_all (simA_cons (sim_lc (simI_str (sim_var 0 (nm rfl))) (simG_name 1 (nm rfl) (np rfl)) (simT_yes) (sim_op opA_in (sim_var 1 (nm rfl)) (sim_str _)) (inv' rfl) (nmv rfl) (npv rfl)) (simA_nil))))))
 (simS_next))
 (simS_ret (Sim.toE (sim_andV (sim_isi .int (sim_var 0 (nm rfl))) (sim_notV (sim_isi .bool (sim_var 0 (nm rfl)))))))), ?_⟩
  intro ds Q hl hF
  match ds, hl with
  | [a], _ =>
  cases a <;> first | exact hF.elim | skip
  · exact hF
  rename_i x _
  obtain ⟨hw, q⟩ := hF
  refine andV_t (a := dChain (cmpD fun i j => decide (i ≤ j)) (cmpD fun i j => decide (i ≤ j)) (dC (.int 1)) (dCB lenD (dCons (dV 0) dNil)) (dC (.int 8))) (s := { δ := [some (.str x), none], n := 0 }) (fun R r => chain_c (j := (x.length : Nat)) (by have := hw.1; omega) (by have := hw.2.1; omega) (fun R r => ⟨small_line (by have := hw.2.1; omega), r⟩) r) ?_
  have hsl : (signs x).length ≤ 8 := by
    have := hw.2.1
    unfold signs
    rw [List.length_map, Array.length_toList]
    exact this
  refine ⟨small_line (by omega), lcD_ind (fun i acc s => acc = List.replicate i (.bool true) ∧ s = { δ := [some (.str x), none], n := 0 }) ⟨rfl, rfl⟩ ?_ ?_⟩
  · rintro i d acc s N hi ⟨rfl, rfl⟩ hN
    unfold signs at hi
    rw [List.getElem?_map] at hi
    obtain ⟨c, hc, rfl⟩ := Option.map_eq_some_iff.mp hi
    have hc := hw.2.2 c (List.mem_of_getElem? hc)
    refine in_textD (x := Str.ofString "abcdefghijklmnopqrstuvwxyz") (c := c) (Q := fun b => N (List.replicate i (PyData.bool true) ++ [.bool b]) _) ?_
    rw [decide_eq_true (mem_small.mpr hc)]
    refine hN _ _ ⟨?_, rfl⟩
    rw [← List.replicate_succ']
  · rintro acc s ⟨rfl, rfl⟩
    refine ⟨_, bools_rep _, ?_⟩
    rw [all_rep]
    exact q
theorem ok__law_wgood (T : Tx K mg) (O__law_wleaf : Ok P w K mg base 1 "_law_wleaf" ["_law_thing"] (spN K 1 .E leafF)) : ∀ k : Nat, Ok P w K mg base (k + 2) "_law_wgood" ["_law_thing"] (spN K 1 .E (goodF k))
  | 0 => (Ok.no T.d__law_wgood sc__law_wgood (spN_no fun ds Q h => h)).mono (by omega)
  | k + 1 => by
    have O__law_wgood := ok__law_wgood T O__law_wleaf k
    refine Ok.ofN (M := []) T.d__law_wgood sc__law_wgood rfl (by decide) fun f cdv A outer s H E hr => ⟨_, _, (pss_cons (ps_if (pt_val (pe_callB (isiK K rfl) (by rfl) T.z_isinstance boot_isi (pa_cons (pv 0) (pa_cons (pe_bltn (v := .ty "tuple") (by rfl) T.z_tuple boot_tuple rfl) pa_nil))))
 (pss_one (ps_ret (pe_callB (allK K rfl rfl) (by rfl) T.z_all boot_all (pa_cons (pe_lc (own := [("_law_part", 1)]) rfl sc__law_wgood.nd (piT K rfl (pv 0)) (blkOk_by (own := [("_law_part", 1)]) (N := ["_law_thing", "_law_part"]) (sc := defScope s__law_wgood) (by decide +kernel)) (fun _ _ _ _ _ => pg_nameL (i := 1) sc__law_wgood.nd rfl rfl) (fun _ _ _ _ _ => pts_nil) (fun _ _ _ _ _ => pe_or (pe_fn O__law_wgood (hr.mono (by omega)) (by rfl) (pa_cons (pv 1) (pa_nil))) (pe_one (pe_fn O__law_wleaf (hr.mono (by omega)) (by rfl) (pa_cons (pv 1) (pa_nil)))))) (pa_nil)))))
 (pss_nil))
 (pss_one (ps_ret (pe_bl)))),
 (simS_seq (simS_if (simT_B (sim_isi .tuple (sim_var 0 (nm rfl))))
 (simS_ret (Sim.toE (sim_cb caA_all (simA_cons (sim_lc (simI_tup (sim_var 0 (nm rfl))) (simG_name 1 (nm rfl) (np rfl)) (simT_yes) (sim_orV (sim_call (simA_cons (sim_var 1 (nm rfl)) (simA_nil))) (sim_call (simA_cons (sim_var 1 (nm rfl)) (simA_nil)))) (inv' rfl) (nmv rfl) (npv rfl)) (simA_nil)))))
 (simS_next))
 (simS_ret (Sim.toE (sim_bl _)))), ?_⟩
    intro ds Q hl hF
    match ds, hl, hF with
    | [a], _, hF =>
    obtain ⟨hv, hz, q⟩ := hF
    cases a with
    | none => cases k <;> exact hv.elim
    | bool x => cases k <;> exact hv.elim
    | list x => cases k <;> exact hv.elim
    | dict x => cases k <;> exact hv.elim
    | str x => exact q
    | int i => exact q
    | tuple xs =>
      cases k with
      | zero => exact hv.elim
      | succ k =>
      have hv : ∀ d ∈ xs, vd k d := hv
      have few := few_parts xs
      refine ⟨small_big (by (first | omega | (dsimp only; omega) | (dsimp only at *; omega))), lcD_ind (fun i acc s => acc = List.replicate i (.bool true) ∧ s = { δ := [some (.tuple xs), none], n := 0 }) ⟨rfl, rfl⟩ ?_ ?_⟩
      · rintro i d acc s N hi ⟨rfl, rfl⟩ hN
        have m := List.mem_of_getElem? hi
        have hl := len_mem m
        have hvd := hv d m
        refine ⟨hvd, by (first | omega | (dsimp only; omega) | (dsimp only at *; omega)), ?_⟩
        have fin : N (List.replicate i (PyData.bool true) ++ [.bool true]) (wipeS { δ := [some (.tuple xs), some d], n := 0 } [1]) := by
          refine hN _ _ ⟨?_, rfl⟩
          rw [← List.replicate_succ']
        cases d with
        | none => cases k <;> exact hvd.elim
        | bool x => cases k <;> exact hvd.elim
        | list x => cases k <;> exact hvd.elim
        | dict x => cases k <;> exact hvd.elim
        | str x => exact ⟨by cases k <;> exact hvd, fin⟩
        | int i => exact fin
        | tuple ys => exact fin
      · rintro acc s ⟨rfl, rfl⟩
        refine ⟨_, bools_rep _, ?_⟩
        rw [all_rep]
        exact q
theorem ok__law_wstep (T : Tx K mg) : Ok P w K mg base 1 "_law_wstep" ["_law_state", "_law_many", "_law_depth", "_law_sign"] (spN K 4 .E stepF) := by
  refine Ok.ofN (M := []) T.d__law_wstep sc__law_wstep rfl (by decide) fun f cdv A outer s H E hr => ⟨_, _, (pss_cons (ps_set (i := 4) sc__law_wstep.nd rfl (Or.inl rfl) (pe_str))
 (pss_cons (ps_if (PW.pt (pw_and (pt_cmpR (inG K rfl (u65 hr.toRoom)) (pv 0) (pe_tup (pa_cons (pe_str) (pa_cons (pe_str) (pa_cons (pe_str) (pa_nil))))) (by rfl)) (pw_and (pt_cmpR (eqG K rfl hr.units) (pv 3) (pe_str) (nomark _)) (pw_and1 (pt_cmpR op_lt (pv 2) (pe_int) (nomark _))))))
 (pss_one (ps_ret (pe_tup (pa_cons (pe_str) (pa_cons (pe_int) (pa_cons (pe_op (addG K rfl) (pv 2) (pe_int)) (pa_nil)))))))
 (pss_nil))
 (pss_cons (ps_if (PW.pt (pw_and (pt_cmpR (inG K rfl (u65 hr.toRoom)) (pv 0) (pe_tup (pa_cons (pe_str) (pa_cons (pe_str) (pa_cons (pe_str) (pa_cons (pe_str) (pa_cons (pe_str) (pa_nil))))))) (by rfl)) (pw_and1 (pt_cmpR (eqG K rfl hr.units) (pv 3) (pe_str) (nomark _)))))
 (pss_one (ps_ret (pe_tup (pa_cons (pe_ifExp (pt_cmpR op_gt (pv 2) (pe_int) (nomark _)) (pe_str) (pe_str)) (pa_cons (pe_int) (pa_cons (pe_op op_sub (pv 2) (pe_int)) (pa_nil)))))))
 (pss_nil))
 (pss_cons (ps_if (PW.pt (pw_and (pt_cmpR (inG K rfl (u65 hr.toRoom)) (pv 0) (pe_tup (pa_cons (pe_str) (pa_cons (pe_str) (pa_cons (pe_str) (pa_cons (pe_str) (pa_nil)))))) (by rfl)) (pw_and1 (pt_cmpR (eqG K rfl hr.units) (pv 3) (pe_str) (nomark _)))))
 (pss_one (ps_ret (pe_tup (pa_cons (pe_str) (pa_cons (pe_int) (pa_cons (pv 2) (pa_nil)))))))
 (pss_nil))
 (pss_cons (ps_if (PW.pt (pw_or (PW.pt (pw_and (pt_cmpR (inG K rfl (u65 hr.toRoom)) (pv 0) (pe_tup (pa_cons (pe_str) (pa_cons (pe_str) (pa_nil)))) (by rfl)) (pw_and1 (pt_cmpR (inG K rfl (u65 hr.toRoom)) (pv 3) (pv 4) (by rfl))))) (pw_or1 (PW.pt (pw_and (pt_cmpR (eqG K rfl hr.units) (pv 0) (pe_str) (nomark _)) (pw_and (pt_cmpR (inG K rfl (u65 hr.toRoom)) (pv 3) (pv 4) (by rfl)) (pw_and1 (pt_cmpR op_lt (pv 1) (pe_int) (nomark _)))))))))
 (pss_one (ps_ret (pe_tup (pa_cons (pe_str) (pa_cons (pe_op (addG K rfl) (pv 1) (pe_int)) (pa_cons (pv 2) (pa_nil)))))))
 (pss_nil))
 (pss_cons (ps_if (PW.pt (pw_and (pt_cmpR (inG K rfl (u65 hr.toRoom)) (pv 0) (pe_tup (pa_cons (pe_str) (pa_cons (pe_str) (pa_nil)))) (by rfl)) (pw_and1 (pt_cmpR (eqG K rfl hr.units) (pv 3) (pe_str) (nomark _)))))
 (pss_one (ps_ret (pe_tup (pa_cons (pe_str) (pa_cons (pe_int) (pa_cons (pv 2) (pa_nil)))))))
 (pss_nil))
 (pss_cons (ps_if (PW.pt (pw_and (pt_cmpR (inG K rfl (u65 hr.toRoom)) (pv 0) (pe_tup (pa_cons (pe_str) (pa_cons (pe_str) (pa_nil)))) (by rfl)) (pw_and1 (pt_cmpR (eqG K rfl hr.units) (pv 3) (pe_str) (nomark _)))))
 (pss_one (ps_ret (pe_tup (pa_cons (pe_str) (pa_cons (pe_int) (pa_cons (pv 2) (pa_nil)))))))
 (pss_nil))
 (pss_cons (ps_if (PW.pt (pw_and (pt_cmpR (inG K rfl (u65 hr.toRoom)) (pv 0) (pe_tup (pa_cons (pe_str) (pa_cons (pe_str) (pa_cons (pe_str) (pa_nil))))) (by rfl)) (pw_and1 (pt_cmpR (inG K rfl (u65 hr.toRoom)) (pv 3) (pe_str) (by rfl)))))
 (pss_one (ps_ret (pe_tup (pa_cons (pe_str) (pa_cons (pe_int) (pa_cons (pv 2) (pa_nil)))))))
 (pss_nil))
 (pss_cons (ps_if (PW.pt (pw_and (pt_cmpR (eqG K rfl hr.units) (pv 0) (pe_str) (nomark _)) (pw_and (pt_cmpR (inG K rfl (u65 hr.toRoom)) (pv 3) (pe_str) (by rfl)) (pw_and1 (pt_cmpR op_lt (pv 1) (pe_int) (nomark _))))))
 (pss_one (ps_ret (pe_tup (pa_cons (pe_str) (pa_cons (pe_op (addG K rfl) (pv 1) (pe_int)) (pa_cons (pv 2) (pa_nil)))))))
 (pss_nil))
 (pss_one (ps_ret (pe_tup (pa_cons (pe_str) (pa_cons (pe_int) (pa_cons (pe_int) (pa_nil)))))))))))))))),
 (simS_seq (simS_set 4 (nm rfl) (np rfl) (sim_str _))
 (simS_seq (simS_if (simT_and (simT_test (sim_op opA_in (sim_var 0 (nm rfl)) (sim_tup (by decide) (simA_cons (sim_str _) (simA_cons (sim_str _) (simA_cons (sim_str _) (simA_nil))))))) (simT_and (simT_test (sim_op opA_eq (sim_var 3 (nm rfl)) (sim_str _))) (simT_test (sim_op (opA_cmp _) (sim_var 2 (nm rfl)) (sim_int _)))))
 (simS_ret (Sim.toE (sim_tup (by decide) (simA_cons (sim_str _) (simA_cons (sim_int _) (simA_cons (sim_op opA_add (sim_var 2 (nm rfl)) (sim_int _)) (simA_nil)))))))
 (simS_next))
 (simS_seq (simS_if (simT_and (simT_test (sim_op opA_in (sim_var 0 (nm rfl)) (sim_tup (by decide) (simA_cons (sim_str _) (simA_cons (sim_str _) (simA_cons (sim_str _) (simA_cons (sim_str _) (simA_cons (sim_str _) (simA_nil))))))))) (simT_test (sim_op opA_eq (sim_var 3 (nm rfl)) (sim_str _))))
 (simS_ret (Sim.toE (sim_tup (by decide) (simA_cons (sim_if (simT_test (sim_op (opA_cmp _) (sim_var 2 (nm rfl)) (sim_int _))) (sim_str _) (sim_str _)) (simA_cons (sim_int _) (simA_cons (sim_op opA_sub (sim_var 2 (nm rfl)) (sim_int _)) (simA_nil)))))))
 (simS_next))
 (simS_seq (simS_if (simT_and (simT_test (sim_op opA_in (sim_var 0 (nm rfl)) (sim_tup (by decide) (simA_cons (sim_str _) (simA_cons (sim_str _) (simA_cons (sim_str _) (simA_cons (sim_str _) (simA_nil)))))))) (simT_test (sim_op opA_eq (sim_var 3 (nm rfl)) (sim_str _))))
 (simS_ret (Sim.toE (sim_tup (by decide) (simA_cons (sim_str _) (simA_cons (sim_int _) (simA_cons (sim_var 2 (nm rfl)) (simA_nil)))))))
 (simS_next))
 (simS_seq (simS_if (simT_or (simT_and (simT_test (sim_op opA_in (sim_var 0 (nm rfl)) (sim_tup (by decide) (simA_cons (sim_str _) (simA_cons (sim_str _) (simA_nil)))))) (simT_test (sim_op opA_in (sim_var 3 (nm rfl)) (sim_var 4 (nm rfl))))) (simT_and (simT_test (sim_op opA_eq (sim_var 0 (nm rfl)) (sim_str _))) (simT_and (simT_test (sim_op opA_in (sim_var 3 (nm rfl)) (sim_var 4 (nm rfl)))) (simT_test (sim_op (opA_cmp _) (sim_var 1 (nm rfl)) (sim_int _))))))
 (simS_ret (Sim.toE (sim_tup (by decide) (simA_cons (sim_str _) (simA_cons (sim_op opA_add (sim_var 1 (nm rfl)) (sim_int _)) (simA_cons (sim_var 2 (nm rfl)) (simA_nil)))))))
 (simS_next))
 (simS_seq (simS_if (simT_and (simT_test (sim_op opA_in (sim_var 0 (nm rfl)) (sim_tup (by decide) (simA_cons (sim_str _) (simA_cons (sim_str _) (simA_nil)))))) (simT_test (sim_op opA_eq (sim_var 3 (nm rfl)) (sim_str _))))
 (simS_ret (Sim.toE (sim_tup (by decide) (simA_cons (sim_str _) (simA_cons (sim_int _) (simA_cons (sim_var 2 (nm rfl)) (simA_nil)))))))
 (simS_next))
 (simS_seq (simS_if (simT_and (simT_test (sim_op opA_in (sim_var 0 (nm rfl)) (sim_tup (by decide) (simA_cons (sim_str _) (simA_cons (sim_str _) (simA_nil)))))) (simT_test (sim_op opA_eq (sim_var 3 (nm rfl)) (sim_str _))))
 (simS_ret (Sim.toE (sim_tup (by decide) (simA_cons (sim_str _) (simA_cons (sim_int _) (simA_cons (sim_var 2 (nm rfl)) (simA_nil)))))))
 (simS_next))
 (simS_seq (simS_if (simT_and (simT_test (sim_op opA_in (sim_var 0 (nm rfl)) (sim_tup (by decide) (simA_cons (sim_str _) (simA_cons (sim_str _) (simA_cons (sim_str _) (simA_nil))))))) (simT_test (sim_op opA_in (sim_var 3 (nm rfl)) (sim_str _))))
 (simS_ret (Sim.toE (sim_tup (by decide) (simA_cons (sim_str _) (simA_cons (sim_int _) (simA_cons (sim_var 2 (nm rfl)) (simA_nil)))))))
 (simS_next))
 (simS_seq (simS_if (simT_and (simT_test (sim_op opA_eq (sim_var 0 (nm rfl)) (sim_str _))) (simT_and (simT_test (sim_op opA_in (sim_var 3 (nm rfl)) (sim_str _))) (simT_test (sim_op (opA_cmp _) (sim_var 1 (nm rfl)) (sim_int _)))))
 (simS_ret (Sim.toE (sim_tup (by decide) (simA_cons (sim_str _) (simA_cons (sim_op opA_add (sim_var 1 (nm rfl)) (sim_int _)) (simA_cons (sim_var 2 (nm rfl)) (simA_nil)))))))
 (simS_next))
 (simS_ret (Sim.toE (sim_tup (by decide) (simA_cons (sim_str _) (simA_cons (sim_int _) (simA_cons (sim_int _) (simA_nil)))))))))))))))), ?_⟩
  intro ds Q hl hF
  rcases hF with ⟨s, d, c, rfl, hd, q⟩ | ⟨c, rfl, q⟩
  rotate_left
  · refine seqSet ?_
    refine seqIf (b := false) (tst_and0 (fun Q q => ⟨rfl, rfl, in_nms (by decide +kernel) Q _ q⟩)) (fun z => nomatch z) fun _ => ?_
    refine seqIf (b := false) (tst_and0 (fun Q q => ⟨rfl, rfl, in_nms (by decide +kernel) Q _ q⟩)) (fun z => nomatch z) fun _ => ?_
    refine seqIf (b := false) (tst_and0 (fun Q q => ⟨rfl, rfl, in_nms (by decide +kernel) Q _ q⟩)) (fun z => nomatch z) fun _ => ?_
    refine seqIf (b := false || false) (tst_or (tst_and0 (fun Q q => ⟨rfl, rfl, in_nms (by decide +kernel) Q _ q⟩)) (tst_and0 (fun Q q => q))) (fun z => nomatch z) fun _ => ?_
    refine seqIf (b := false) (tst_and0 (fun Q q => ⟨rfl, rfl, in_nms (by decide +kernel) Q _ q⟩)) (fun z => nomatch z) fun _ => ?_
    refine seqIf (b := false) (tst_and0 (fun Q q => ⟨rfl, rfl, in_nms (by decide +kernel) Q _ q⟩)) (fun z => nomatch z) fun _ => ?_
    refine seqIf (b := false) (tst_and0 (fun Q q => ⟨rfl, rfl, in_nms (by decide +kernel) Q _ q⟩)) (fun z => nomatch z) fun _ => ?_
    refine seqIf (b := false) (tst_and0 (fun Q q => q)) (fun z => nomatch z) fun _ => ?_
    exact q
  have eb : ∀ {b1 b2 : Bool} {Q : Bool → S → Prop} {s : S}, b1 = b2 → Q b2 s → Q b1 s := fun e q => e ▸ q
  have eqs : ∀ (k : Nat) (x : Str), tl x = [k] → ∀ (Q : Bool → S → Prop) (s : S), Q (decide (c = k)) s → Q (decide ((⟨#[c]⟩ : Str) = x)) s := fun k x h Q s q => by rw [one_is h]; exact q
  have key : ∀ z, afterD (stp s d c) = z → Q z := fun z e => e ▸ q
  refine seqSet ?_
  refine seqIf (b := s.isA && (decide (c = 40) && decide ((d : Int) < 40))) (tst_and (fun Q q => ⟨rfl, rfl, in_nms (aA s) Q _ q⟩) (tst_and (fun Q q => eqs 40 _ (by decide +kernel) _ _ q) (fun Q q => q))) (fun h1 => ?_) (fun h1 => ?_)
  · refine key _ ?_
    simp only [Bool.and_eq_true, decide_eq_true_eq] at h1
    obtain ⟨a1, rfl, a3⟩ := h1
    cases s <;> first | exact absurd a1 Bool.false_ne_true | skip
    all_goals
      have hd4 : d < 40 := by omega
      first
        | (rw [show stp .start d 40 = some (.opn, d + 1) by simp [stp, hd4]]; rfl)
        | (rw [show stp .opn d 40 = some (.opn, d + 1) by simp [stp, hd4]]; rfl)
        | (rw [show stp .blank d 40 = some (.opn, d + 1) by simp [stp, hd4]]; rfl)
  refine seqIf (b := s.isB && decide (c = 41)) (tst_and (fun Q q => ⟨rfl, rfl, in_nms (aB s) Q _ q⟩) (fun Q q => eqs 41 _ (by decide +kernel) _ _ q)) (fun h2 => ?_) (fun h2 => ?_)
  · simp only [Bool.and_eq_true, decide_eq_true_eq] at h2
    obtain ⟨a1, rfl⟩ := h2
    have e : stp s d 41 = some (if 1 < d then .behind else .fin, d - 1) := by
      cases s <;> first | exact absurd a1 Bool.false_ne_true | simp [stp]
    have d1 : 1 ≤ d := by cases s <;> first | exact absurd a1 Bool.false_ne_true | exact hd
    by_cases hd1 : 1 < d
    · refine ifp (decide_eq_true (by omega)) (key _ ?_)
      rw [e, if_pos hd1]
      show PyData.tuple _ = PyData.tuple _
      rw [show ((d - 1 : Nat) : Int) = (d : Int) - 1 by omega]
      rfl
    · refine ifn (by simp; omega) (key _ ?_)
      rw [e, if_neg hd1]
      show PyData.tuple _ = PyData.tuple _
      rw [show ((d - 1 : Nat) : Int) = (d : Int) - 1 by omega]
      rfl
  refine seqIf (b := s.isC && decide (c = 32)) (tst_and (fun Q q => ⟨rfl, rfl, in_nms (aC s) Q _ q⟩) (fun Q q => eqs 32 _ (by decide +kernel) _ _ q)) (fun h3 => ?_) (fun h3 => ?_)
  · simp only [Bool.and_eq_true, decide_eq_true_eq] at h3
    obtain ⟨a1, rfl⟩ := h3
    refine key _ ?_
    have e : stp s d 32 = some (.blank, d) := by
      cases s <;> first | exact absurd a1 Bool.false_ne_true | simp [stp]
    rw [e]
    rfl
  refine seqIf (b := (s.isD && decide (c ∈ tl (Str.ofString "abcdefghijklmnopqrstuvwxyz"))) || (s.isW && (decide (c ∈ tl (Str.ofString "abcdefghijklmnopqrstuvwxyz")) && decide ((s.many : Int) < 8)))) (tst_or (tst_and (fun Q q => ⟨rfl, rfl, in_nms (aD s) Q _ q⟩) (fun Q q => in_text Q _ q)) (tst_and (fun Q q => eb (Q := Q) (aW s) q) (tst_and (fun Q q => in_text Q _ q) (fun Q q => q)))) (fun h4 => ?_) (fun h4 => ?_)
  · simp only [Bool.or_eq_true, Bool.and_eq_true, decide_eq_true_eq, mem_small] at h4
    have e : stp s d c = some (.word (s.many + 1), d) := by
      rcases h4 with ⟨a1, a2⟩ | ⟨a1, a2, a3⟩
      · cases s <;> first | exact absurd a1 Bool.false_ne_true | skip
        · simp only [stp]; rw [if_neg (by omega), if_neg (by omega), if_pos (by omega)]; rfl
        · simp only [stp]; rw [if_neg (by omega), if_pos (by omega)]; rfl
      · cases s <;> first | exact absurd a1 Bool.false_ne_true | skip
        simp only [Aut.many] at a3
        simp only [stp]; rw [if_neg (by omega), if_neg (by omega), if_pos (by omega)]; rfl
    refine key _ ?_
    rw [e]
    show PyData.tuple _ = PyData.tuple _
    rfl
  refine seqIf (b := s.isD && decide (c = 45)) (tst_and (fun Q q => ⟨rfl, rfl, in_nms (aD s) Q _ q⟩) (fun Q q => eqs 45 _ (by decide +kernel) _ _ q)) (fun h5 => ?_) (fun h5 => ?_)
  · simp only [Bool.and_eq_true, decide_eq_true_eq] at h5
    obtain ⟨a1, rfl⟩ := h5
    refine key _ ?_
    have e : stp s d 45 = some (.minus, d) := by
      cases s <;> first | exact absurd a1 Bool.false_ne_true | simp [stp]
    rw [e]
    rfl
  refine seqIf (b := s.isD && decide (c = 48)) (tst_and (fun Q q => ⟨rfl, rfl, in_nms (aD s) Q _ q⟩) (fun Q q => eqs 48 _ (by decide +kernel) _ _ q)) (fun h6 => ?_) (fun h6 => ?_)
  · simp only [Bool.and_eq_true, decide_eq_true_eq] at h6
    obtain ⟨a1, rfl⟩ := h6
    refine key _ ?_
    have e : stp s d 48 = some (.nought, d) := by
      cases s <;> first | exact absurd a1 Bool.false_ne_true | simp [stp]
    rw [e]
    rfl
  refine seqIf (b := s.isE && decide (c ∈ tl (Str.ofString "123456789"))) (tst_and (fun Q q => ⟨rfl, rfl, in_nms (aE s) Q _ q⟩) (fun Q q => in_text Q _ q)) (fun h7 => ?_) (fun h7 => ?_)
  · simp only [Bool.and_eq_true, decide_eq_true_eq, mem_fig1] at h7
    obtain ⟨a1, a2⟩ := h7
    refine key _ ?_
    have e : stp s d c = some (.number 1, d) := by
      cases s <;> first | exact absurd a1 Bool.false_ne_true | skip
      · exact beg_fig (L := []) (.inl (.inl ⟨rfl, (fun z => nomatch z)⟩)) a2
      · exact beg_fig (L := []) (.inr rfl) a2
      · exact beg_fig (L := []) (.inl (.inr rfl)) a2
    rw [e]
    rfl
  refine seqIf (b := s.isN && (decide (c ∈ tl (Str.ofString "0123456789")) && decide ((s.many : Int) < 30))) (tst_and (fun Q q => eb (Q := Q) (aN s) q) (tst_and (fun Q q => in_text Q _ q) (fun Q q => q))) (fun h8 => ?_) (fun h8 => ?_)
  · simp only [Bool.and_eq_true, decide_eq_true_eq, mem_fig] at h8
    obtain ⟨a1, a2, a3⟩ := h8
    refine key _ ?_
    have e : stp s d c = some (.number (s.many + 1), d) := by
      cases s <;> first | exact absurd a1 Bool.false_ne_true | skip
      simp only [Aut.many] at a3
      simp only [stp]; rw [if_neg (by omega), if_neg (by omega), if_pos (by omega)]; rfl
    rw [e]
    rfl
  · refine key _ ?_
    have e : stp s d c = none := by
      simp only [Bool.and_eq_false_iff, Bool.or_eq_false_iff, decide_eq_false_iff_not, mem_small, mem_fig1, mem_fig] at h1 h2 h3 h4 h5 h6 h7 h8
      cases s <;> simp only [Aut.isA, Aut.isB, Aut.isC, Aut.isD, Aut.isE, Aut.isW, Aut.isN, Aut.many, false_or, true_or, reduceCtorEq, Bool.true_eq_false, and_true, true_and] at h1 h2 h3 h4 h5 h6 h7 h8
      all_goals
        simp only [stp]
        repeat (first | rfl | rw [if_neg (by omega)])
    rw [e]
    rfl
end

def endD (L : List Nat) : D := .tuple [stD (going .start 0 L).1.1 (going .start 0 L).1.2, .int ((going .start 0 L).2 : Nat)]
def endF : DF := fun ds Q => match ds with
  | [d] => (match d with
    | .str z => z.length ≤ sizeLine ∧ Q (endD (tl z))
    | _ => False)
  | _ => False
theorem stp_dp {s s' : Aut} {d d' c : Nat} (h : s.dp d) (e : stp s d c = some (s', d')) : s'.dp d' := by
  cases s <;> simp only [stp] at e <;> (repeat' split at e) <;> first | cases e | skip
  all_goals first
    | exact Nat.le_add_left 1 d
    | exact h
    | exact trivial
    | (show 1 ≤ d - 1; omega)
theorem nm_ne : ∀ s : Aut, decide (Str.ofString s.nm = Str.ofString "") = false
  | .start => by decide +kernel
  | .opn => by decide +kernel
  | .word _ => (by decide +kernel : decide (Str.ofString "word" = Str.ofString "") = false)
  | .minus => by decide +kernel
  | .number _ => (by decide +kernel : decide (Str.ofString "number" = Str.ofString "") = false)
  | .nought => by decide +kernel
  | .blank => by decide +kernel
  | .behind => by decide +kernel
  | .fin => by decide +kernel
section
variable {P : Program} {w : World} {K : PySem.W.Frag} {mg : Str → Option Value} {base : Heap}
theorem ok__law_wend (T : Tx K mg) (O__law_wstep : Ok P w K mg base 1 "_law_wstep" ["_law_state", "_law_many", "_law_depth", "_law_sign"] (spN K 4 .E stepF)) : Ok P w K mg base 2 "_law_wend" ["_law_signs"] (spN K 1 .E endF) := by
  refine Ok.ofN (M := []) T.d__law_wend sc__law_wend rfl (by decide) fun f cdv A outer s H E hr => ⟨_, _, (pss_cons (ps_set (i := 1) sc__law_wend.nd rfl (Or.inl rfl) (pe_tup (pa_cons (pe_str) (pa_cons (pe_int) (pa_cons (pe_int) (pa_nil))))))
 (pss_cons (ps_for PassesOwn.never rfl (pi_enumS (by rfl) T.z_enumerate (pa_cons (pv 0) pa_nil)) (pgT K rfl 2 rfl (pgs_cons (pg_nameL (i := 2) sc__law_wend.nd rfl rfl) (pgs_cons (pg_nameL (i := 3) sc__law_wend.nd rfl rfl) (pgs_nil))))
 (pss_cons (ps_set (i := 4) sc__law_wend.nd rfl (Or.inl rfl) (pe_fn O__law_wstep (hr.mono (by omega)) (by rfl) (pa_cons (pe_ix (ixG K rfl) (pv 1) (pe_int) (fun _ _ => rfl)) (pa_cons (pe_ix (ixG K rfl) (pv 1) (pe_int) (fun _ _ => rfl)) (pa_cons (pe_ix (ixG K rfl) (pv 1) (pe_int) (fun _ _ => rfl)) (pa_cons (pv 3) (pa_nil)))))))
 (pss_cons (ps_if (pt_cmpR (eqG K rfl hr.units) (pe_ix (ixG K rfl) (pv 4) (pe_int) (fun _ _ => rfl)) (pe_str) (nomark _))
 (pss_one (ps_ret (pe_tup (pa_cons (pv 1) (pa_cons (pv 2) (pa_nil))))))
 (pss_nil))
 (pss_one (ps_set (i := 1) sc__law_wend.nd rfl (Or.inl rfl) (pv 4))))))
 (pss_one (ps_ret (pe_tup (pa_cons (pv 1) (pa_cons (pe_callB (lenG K rfl) (by rfl) T.z_len boot_len (pa_cons (pv 0) (pa_nil))) (pa_nil)))))))),
 (simS_seq (simS_set 1 (nm rfl) (np rfl) (sim_tup (by decide) (simA_cons (sim_str _) (simA_cons (sim_int _) (simA_cons (sim_int _) (simA_nil))))))
 (simS_cut (simS_for (simI_enumS (sim_var 0 (nm rfl))) (simG_tup (simGs_cons (simG_name 2 (nm rfl) (np rfl)) (simGs_cons (simG_name 3 (nm rfl) (np rfl)) (simGs_nil))))
 (simS_seq (simS_set 4 (nm rfl) (np rfl) (sim_call (simA_cons (opA_ix (sim_var 1 (nm rfl)) (sim_int _)) (simA_cons (opA_ix (sim_var 1 (nm rfl)) (sim_int _)) (simA_cons (opA_ix (sim_var 1 (nm rfl)) (sim_int _)) (simA_cons (sim_var 3 (nm rfl)) (simA_nil)))))))
 (simS_seq (simS_if (simT_test (sim_op opA_eq (opA_ix (sim_var 4 (nm rfl)) (sim_int _)) (sim_str _)))
 (simS_ret (Sim.toE (sim_tup (by decide) (simA_cons (sim_var 1 (nm rfl)) (simA_cons (sim_var 2 (nm rfl)) (simA_nil))))))
 (simS_next))
 (simS_set 1 (nm rfl) (np rfl) (sim_var 4 (nm rfl))))))
 (simS_ret (Sim.toE (sim_tup (by decide) (simA_cons (sim_var 1 (nm rfl)) (simA_cons (sim_cb caA_len (simA_cons (sim_var 0 (nm rfl)) (simA_nil))) (simA_nil)))))))), ?_⟩
  intro ds Q hl hF
  match ds, hl with
  | [a], _ =>
  cases a <;> first | exact hF.elim | skip
  rename_i z _
  obtain ⟨hz, q⟩ := hF
  have hlen : (signs z).length = (tl z).length := by unfold signs; rw [List.length_map]
  refine ⟨fun s => ∃ (a b c : Option D) (t : Aut) (d : Nat), s = { δ := [some (.str z), some (stD t d), a, b, c], n := 0 } ∧ going .start 0 (tl z) = ((t, d), (tl z).length), ?_, ?_⟩
  · refine forD_ind (fun i s => ∃ (a b c : Option D) (t : Aut) (d : Nat), s = { δ := [some (.str z), some (stD t d), a, b, c], n := 0 } ∧ t.dp d ∧ going .start 0 (tl z) = more i (going t d ((tl z).drop i))) ⟨none, none, none, .start, 0, rfl, trivial, by rw [more_zero]; rfl⟩ ?_ ?_
    · rintro i e s N hi ⟨a, b, c0, t, d, rfl, hdp, hg⟩ hN
      have hil : i < (tl z).length := by
        have := (List.getElem?_eq_some_iff.mp hi).1
        rw [enum_len, hlen] at this
        exact this
      obtain ⟨c, hc⟩ : ∃ c, (tl z)[i]? = some c := ⟨_, List.getElem?_eq_getElem hil⟩
      have he : e = .tuple [.int (i : Nat), .str ⟨#[c]⟩] := by
        have h1 : (signs z)[i]? = some (.str ⟨#[c]⟩) := by
          unfold signs
          rw [List.getElem?_map]
          show Option.map _ ((tl z)[i]?) = _
          rw [hc]
          rfl
        rw [enum_get h1] at hi
        exact (Option.some.inj hi).symm
      subst he
      have hdr : (tl z).drop i = c :: (tl z).drop (i + 1) := by
        rw [List.drop_eq_getElem_cons hil]
        rw [List.getElem?_eq_getElem hil] at hc
        rw [Option.some.inj hc]
      rw [hdr] at hg
      refine ⟨rfl, ?_⟩
      refine ix_ok (ds := [.str (Str.ofString t.nm), .int (t.many : Nat), .int (d : Nat)]) 0 rfl rfl ?_
      refine ix_ok (ds := [.str (Str.ofString t.nm), .int (t.many : Nat), .int (d : Nat)]) 1 rfl rfl ?_
      refine ix_ok (ds := [.str (Str.ofString t.nm), .int (t.many : Nat), .int (d : Nat)]) 2 rfl rfl ?_
      refine .inl ⟨t, d, c, rfl, hdp, ?_⟩
      cases hs : stp t d c with
      | none =>
        refine ix_ok 0 rfl rfl ?_
        have e2 : endD (tl z) = .tuple [stD t d, .int (i : Nat)] := by
          unfold endD
          rw [hg, going, hs]
          rfl
        rw [e2] at q
        exact q
      | some p =>
        obtain ⟨t', d'⟩ := p
        refine ix_ok 0 rfl rfl ?_
        refine ifn (by show ¬ decide (Str.ofString t'.nm = Str.ofString "") = true; rw [nm_ne]; exact Bool.false_ne_true) ?_
        refine hN _ ⟨_, _, _, t', d', rfl, stp_dp hdp hs, ?_⟩
        rw [hg, going_step hs, more_more]
    · rintro s ⟨a, b, c0, t, d, rfl, hdp, hg⟩
      rw [enum_len, hlen, List.drop_length] at hg
      exact ⟨a, b, c0, t, d, rfl, hg⟩
  · rintro s ⟨a, b, c, t, d, rfl, hg⟩
    refine ⟨hz, ?_⟩
    have e2 : endD (tl z) = .tuple [stD t d, .int (z.length : Nat)] := by
      unfold endD
      rw [hg, TL.len_tl]
    rw [e2] at q
    exact q
end

/-! ### spoilt texts -/
theorem atI_any {xs : List Nat} {r : Int} (h0 : 0 ≤ r) (h1 : r < (xs.length : Nat)) : ∃ c, atI xs r = some c :=
  ⟨_, atI_of r.toNat (by omega) (List.getElem?_eq_getElem (show r.toNat < xs.length by omega))⟩
theorem len_app (a b : Str) : (a ++ b).length = a.length + b.length := by rw [TL.len_tl, TL.len_tl, TL.len_tl, TL.tl_append, List.length_append]
def shortD : D → Prop
  | .str x => x.length ≤ 60
  | _ => False
theorem ix_all {ds : List D} {r : Int} {Q : D → Prop} (h0 : 0 ≤ r) (h1 : r < (ds.length : Nat)) (h : ∀ d ∈ ds, shortD d) (q : ∀ x : Str, x.length ≤ 60 → Q (.str x)) : IxP (atI ds r) Q := by
  have hr : r.toNat < ds.length := by omega
  have hd := h _ (List.getElem_mem hr)
  refine ix_ok r.toNat (by omega) (List.getElem?_eq_getElem hr) ?_
  generalize ds[r.toNat] = d at hd ⊢
  cases d <;> first | exact hd.elim | exact q _ hd
def signF : DFP := fun ds n Q => match ds with
  | [] => n + 10 ≤ 1000000000 ∧ ∀ (x : Str) (n' : Nat), x.length = 1 → n' ≤ n + 4 → Q (.str x) n'
  | _ => False
section
variable {P : Program} {w : World} {K : PySem.W.Frag} {mg : Str → Option Value} {base : Heap}
theorem ok__law_wsign (T : Tx K mg) (O__law_take : Ok P w K mg base 2 "_law_take" ["_law_pen", "_law_many"] (spP K 1 .E takeF)) : Ok P w K mg base 3 "_law_wsign" ["_law_pen"] (spP K 0 .E signF) := by
  refine Ok.ofP (M := []) T.d__law_wsign sc__law_wsign rfl (by decide) (by decide) fun f cdv A outer s H E p c hr => ⟨_, _, (pss_cons (ps_set (i := 1) sc__law_wsign.nd rfl (Or.inl rfl) (pe_str))
 (pss_cons (ps_set (i := 2) sc__law_wsign.nd rfl (Or.inl rfl) (pe_op (addG K rfl) (pe_str) (pe_str)))
 (pss_cons (ps_if (pt_cmpR (eqG K rfl hr.units) (pe_fn O__law_take (hr.mono (by omega)) (by rfl) (pa_cons (pv 0) (pa_cons (pe_int) (pa_nil)))) (pe_int) (nomark _))
 (pss_one (ps_ret (pe_ix (ixG K rfl) (pv 2) (pe_fn O__law_take (hr.mono (by omega)) (by rfl) (pa_cons (pv 0) (pa_cons (pe_callB (lenG K rfl) (by rfl) T.z_len boot_len (pa_cons (pv 2) (pa_nil))) (pa_nil)))) (fun _ _ => rfl))))
 (pss_nil))
 (pss_one (ps_ret (pe_ifExp (pt_cmpR (eqG K rfl hr.units) (pe_fn O__law_take (hr.mono (by omega)) (by rfl) (pa_cons (pv 0) (pa_cons (pe_int) (pa_nil)))) (pe_int) (nomark _)) (pe_ix (ixG K rfl) (pv 1) (pe_fn O__law_take (hr.mono (by omega)) (by rfl) (pa_cons (pv 0) (pa_cons (pe_int) (pa_nil)))) (fun _ _ => rfl)) (pe_ix (ixG K rfl) (pv 1) (pe_fn O__law_take (hr.mono (by omega)) (by rfl) (pa_cons (pv 0) (pa_cons (pe_callB (lenG K rfl) (by rfl) T.z_len boot_len (pa_cons (pv 1) (pa_nil))) (pa_nil)))) (fun _ _ => rfl)))))))),
 (simS_seq (simS_set 1 (nm rfl) (np rfl) (sim_str _))
 (simS_seq (simS_set 2 (nm rfl) (np rfl) (sim_op opA_add (sim_str _) (sim_str _)))
 (simS_seq (simS_if (simT_test (sim_op opA_eq (sim_callP (by simp) rfl (simA_cons (sim_int _) (simA_nil))) (sim_int _)))
 (simS_ret (Sim.toE (opA_ix (sim_var 2 (nm rfl)) (sim_callP (by simp) rfl (simA_cons (sim_cb caA_len (simA_cons (sim_var 2 (nm rfl)) (simA_nil))) (simA_nil))))))
 (simS_next))
 (simS_ret (Sim.toE (sim_if (simT_test (sim_op opA_eq (sim_callP (by simp) rfl (simA_cons (sim_int _) (simA_nil))) (sim_int _))) (Sim.toE (opA_ix (sim_var 1 (nm rfl)) (sim_callP (by simp) rfl (simA_cons (sim_int _) (simA_nil))))) (Sim.toE (opA_ix (sim_var 1 (nm rfl)) (sim_callP (by simp) rfl (simA_cons (sim_cb caA_len (simA_cons (sim_var 1 (nm rfl)) (simA_nil))) (simA_nil))))))))))), ?_⟩
  intro ds m Q hl hF
  match ds, hl with
  | [], _ =>
  obtain ⟨hm, k⟩ := hF
  refine ⟨by decide +kernel, ?_⟩
  have fin : ∀ (x : Str) (r : Int) (R : D → Prop), x.length ≤ sizeLine → 0 ≤ r → r < (x.length : Nat) → (∀ y : Str, y.length = 1 → R (.str y)) → IxS x r R := fun x r R hx r0 r1 h => by
    obtain ⟨c, hc⟩ := atI_any (xs := x.cps.toList) r0 (by rw [Array.length_toList]; exact r1)
    exact ixs_ok hx hc (h _ rfl)
  have l1 : (Str.ofString "() -0123456789abcdefghijklmnopqrstuvwxyz").length = 40 := by decide +kernel
  have s1 : (Str.ofString "() -0123456789abcdefghijklmnopqrstuvwxyz").length ≤ sizeLine := by rw [l1]; decide
  refine take_ok (by (first | omega | (dsimp only; omega) | (dsimp only at *; omega))) (by decide) (by decide) fun a a0 a1 => ?_
  by_cases h : a = 0
  · refine ifp (decide_eq_true h) ⟨by decide +kernel, take_ok (by (first | omega | (dsimp only; omega) | (dsimp only at *; omega))) (by decide +kernel) (by decide +kernel) fun r r0 r1 => ?_⟩
    exact fin _ r _ (by decide +kernel) r0 r1 fun y hy => k y _ hy (by (first | omega | (dsimp only; omega) | (dsimp only at *; omega)))
  refine ifn (by simpa using h) (take_ok (by (first | omega | (dsimp only; omega) | (dsimp only at *; omega))) (by decide) (by decide) fun b b0 b1 => ?_)
  by_cases h : b = 0
  · refine ifp (decide_eq_true h) (take_ok (by (first | omega | (dsimp only; omega) | (dsimp only at *; omega))) (by decide) (by decide) fun r r0 r1 => ?_)
    exact fin _ r _ s1 r0 (by rw [l1]; (first | omega | (dsimp only; omega) | (dsimp only at *; omega))) fun y hy => k y _ hy (by (first | omega | (dsimp only; omega) | (dsimp only at *; omega)))
  · refine ifn (by simpa using h) ⟨s1, take_ok (by (first | omega | (dsimp only; omega) | (dsimp only at *; omega))) (by rw [l1]; decide) (by rw [l1]; decide) fun r r0 r1 => ?_⟩
    exact fin _ r _ s1 r0 r1 fun y hy => k y _ hy (by (first | omega | (dsimp only; omega) | (dsimp only at *; omega)))
end
theorem end_nm : ∀ s : Aut, decide (Str.ofString s.nm = Str.ofString "end") = s.isFin
  | .start => by decide +kernel
  | .opn => by decide +kernel
  | .word _ => (by decide +kernel : decide (Str.ofString "word" = Str.ofString "end") = false)
  | .minus => by decide +kernel
  | .number _ => (by decide +kernel : decide (Str.ofString "number" = Str.ofString "end") = false)
  | .nought => by decide +kernel
  | .blank => by decide +kernel
  | .behind => by decide +kernel
  | .fin => by decide +kernel

/-! ### how far, of a row cut or gone on -/
/-- where it stands, told by how far it goes -/
theorem told_by {z : Str} {o : Out} (h : PB' 0 (tl z) o) :
    ((going .start 0 (tl z)).1.1.isFin = true ∧ (going .start 0 (tl z)).2 = (tl z).length ∧ ∃ ds, told z o = .tuple [.tuple ds, .none] ∧ vd 40 (.tuple ds) ∧ tl z = sh (.tuple ds)) ∨
    ¬ ((going .start 0 (tl z)).1.1.isFin = true ∧ (going .start 0 (tl z)).2 = (tl z).length) ∧ told z o = .tuple [.none, .int ((going .start 0 (tl z)).2 : Nat)] := by
  have hg := going_out h
  cases o with
  | no n =>
    obtain ⟨s', d', hf, hg⟩ := hg
    rw [hg]
    exact .inr ⟨fun z => by rw [hf] at z; exact Bool.false_ne_true z.1, rfl⟩
  | ok x n =>
    obtain ⟨hv, ⟨ds, rfl⟩, hL, hl, hg⟩ := hg
    rw [hg]
    by_cases e : n = (tl z).length
    · refine .inl ⟨rfl, e, ds, if_pos e, hv, ?_⟩
      rw [e, List.drop_length, List.append_nil] at hL
      exact hL
    · exact .inr ⟨fun z => e z.2, if_neg e⟩
theorem going_le : ∀ (L : List Nat) (s : Aut) (d : Nat), (going s d L).2 ≤ L.length
  | [], s, d => Nat.le_refl _
  | c :: r, s, d => by
    rw [going]
    cases h : stp s d c with
    | none => exact Nat.zero_le _
    | some p => exact Nat.succ_le_succ (going_le r p.1 p.2)
/-- all of the first part: then on from there -/
theorem going_app : ∀ (L T : List Nat) (s : Aut) (d : Nat), (going s d L).2 = L.length → going s d (L ++ T) = more L.length (going (going s d L).1.1 (going s d L).1.2 T)
  | [], T, s, d, _ => by rw [List.length_nil, more_zero]; rfl
  | c :: r, T, s, d, h => by
    rw [going] at h ⊢
    rw [List.cons_append, going]
    cases hs : stp s d c with
    | none => rw [hs] at h; exact absurd h (by simp)
    | some p =>
      obtain ⟨s', d'⟩ := p
      rw [hs] at h
      have h : (going s' d' r).2 + 1 = r.length + 1 := h
      have := going_app r T s' d' (by omega)
      dsimp only
      rw [this]
      unfold more
      simp only [List.length_cons]
      congr 1
      omega
/-- what stands ahead of the place is gone through whole, to the very state -/
theorem going_take : ∀ (L : List Nat) (s : Aut) (d k : Nat), k ≤ (going s d L).2 → (going s d (L.take k)).2 = k
  | L, s, d, 0, _ => by rw [List.take_zero]; rfl
  | [], s, d, k + 1, h => absurd h (by show ¬ k + 1 ≤ 0; omega)
  | c :: r, s, d, k + 1, h => by
    rw [List.take_succ_cons, going]
    rw [going] at h
    cases hs : stp s d c with
    | none => rw [hs] at h; exact absurd h (by show ¬ k + 1 ≤ 0; omega)
    | some p =>
      obtain ⟨s', d'⟩ := p
      rw [hs] at h
      have h : k + 1 ≤ (going s' d' r).2 + 1 := h
      have := going_take r s' d' k (by omega)
      dsimp only
      rw [this]
theorem going_take_st : ∀ (L : List Nat) (s : Aut) (d : Nat), (going s d (L.take (going s d L).2)).1 = (going s d L).1
  | [], s, d => rfl
  | c :: r, s, d => by
    rw [going]
    cases hs : stp s d c with
    | none => rfl
    | some p =>
      obtain ⟨s', d'⟩ := p
      dsimp only
      rw [List.take_succ_cons, going, hs]
      dsimp only
      exact going_take_st r s' d'
/-- where it stops short of the end, the next sign can't stand -/
theorem going_stuck : ∀ (L : List Nat) (s : Aut) (d : Nat), (going s d L).2 < L.length → ∃ c, L[(going s d L).2]? = some c ∧ stp (going s d L).1.1 (going s d L).1.2 c = none
  | [], s, d, h => absurd h (by simp)
  | c :: r, s, d, h => by
    rw [going] at h ⊢
    cases hs : stp s d c with
    | none => exact ⟨c, rfl, hs⟩
    | some p =>
      obtain ⟨s', d'⟩ := p
      rw [hs] at h
      have h : (going s' d' r).2 + 1 < r.length + 1 := h
      exact going_stuck r s' d' (by omega)
theorem going_dp : ∀ (L : List Nat) (s : Aut) (d : Nat), s.dp d → d ≤ 40 → (going s d L).1.1.dp (going s d L).1.2 ∧ (going s d L).1.2 ≤ 40
  | [], s, d, h, h4 => ⟨h, h4⟩
  | c :: r, s, d, h, h4 => by
    rw [going]
    cases hs : stp s d c with
    | none => exact ⟨h, h4⟩
    | some p =>
      obtain ⟨s', d'⟩ := p
      refine going_dp r s' d' (stp_dp h hs) ?_
      cases s <;> simp only [stp] at hs <;> (repeat' split at hs) <;> first | cases hs | skip
      all_goals omega
theorem fin_zero : ∀ (L : List Nat) (s : Aut) (d : Nat), (s = .fin → d = 0) → (s = .start → d = 0) → s.dp d → (going s d L).1.1 = .fin → (going s d L).1.2 = 0
  | [], s, d, h, _, _, e => h e
  | c :: r, s, d, h, h0, hd, e => by
    rw [going] at e ⊢
    cases hs : stp s d c with
    | none => rw [hs] at e; exact h e
    | some p =>
      obtain ⟨s', d'⟩ := p
      rw [hs] at e
      refine fin_zero r s' d' ?_ ?_ (stp_dp hd hs) e
      · intro e'
        subst e'
        cases s <;> simp only [stp] at hs <;> (repeat' split at hs) <;> first | cases hs | skip
        all_goals first | omega | (rename_i hx; simp only [reduceCtorEq] at hx)
      · intro e'
        subst e'
        cases s <;> simp only [stp] at hs <;> (repeat' split at hs) <;> first | cases hs | skip
/-- brought to its end -/
def endL : Aut → List Nat
  | .start => [40, 41]
  | .blank => [97]
  | .minus => [49]
  | _ => []
theorem close_up : ∀ (d : Nat) (s : Aut), stp s (d + 1) 41 = some (if 1 < d + 1 then .behind else .fin, d) → going s (d + 1) (List.replicate (d + 1) 41) = ((.fin, 0), d + 1)
  | 0, s, h => by
    rw [List.replicate_succ, going_step h]
    rfl
  | d + 1, s, h => by
    rw [List.replicate_succ, going_step h, if_pos (by omega), close_up d .behind (by simp [stp])]
    unfold more
    rw [Nat.add_comm 1]
theorem close_all {s : Aut} {d : Nat} (h : s.dp d) (h0 : s = .start → d = 0) (hf : s = .fin → d = 0) : going s d (endL s ++ List.replicate d 41) = ((.fin, 0), (endL s).length + d) := by
  have up : ∀ t : Aut, 1 ≤ d → stp t d 41 = some (if 1 < d then .behind else .fin, d - 1) → going t d (List.replicate d 41) = ((.fin, 0), d) := fun t h1 h2 => by
    obtain ⟨k, rfl⟩ : ∃ k, d = k + 1 := ⟨d - 1, by omega⟩
    exact close_up k t h2
  cases s with
  | start => rw [h0 rfl]; rfl
  | fin => rw [hf rfl]; rfl
  | blank =>
    have h : 1 ≤ d := h
    show going .blank d (97 :: List.replicate d 41) = _
    rw [going_step (s' := .word 1) (d' := d) (by simp [stp]), up _ h (by simp [stp])]
    rfl
  | minus =>
    have h : 1 ≤ d := h
    show going .minus d (49 :: List.replicate d 41) = _
    rw [going_step (s' := .number 1) (d' := d) (by simp [stp]), up _ h (by simp [stp])]
    rfl
  | opn =>
    show going _ d (List.replicate d 41) = (_, 0 + d)
    rw [up _ h (by simp [stp]), Nat.zero_add]
  | word m =>
    show going _ d (List.replicate d 41) = (_, 0 + d)
    rw [up _ h (by simp [stp]), Nat.zero_add]
  | number m =>
    show going _ d (List.replicate d 41) = (_, 0 + d)
    rw [up _ h (by simp [stp]), Nat.zero_add]
  | nought =>
    show going _ d (List.replicate d 41) = (_, 0 + d)
    rw [up _ h (by simp [stp]), Nat.zero_add]
  | behind =>
    show going _ d (List.replicate d 41) = (_, 0 + d)
    rw [up _ h (by simp [stp]), Nat.zero_add]
theorem isFin_eq {s : Aut} (h : s.isFin = true) : s = .fin := by cases s <;> first | rfl | exact absurd h Bool.false_ne_true
/-! ### the law's words -/
def deadD : D := .tuple [.str (Str.ofString ""), .int 0, .int 0]
def StOk (v : D) : Prop := (∃ (s : Aut) (d : Nat), v = stD s d ∧ s.dp d) ∨ v = deadD
theorem one_of {x : Str} (h : x.length = 1) : ∃ c, x = ⟨#[c]⟩ := by
  have hl : (tl x).length = 1 := by rw [← TL.len_tl]; exact h
  match hx : tl x, hl with
  | [c], _ => exact ⟨c, TL.ext_tl hx⟩
theorem StOk.sh {v : D} (h : StOk v) : ∃ (a : Str) (b e : Int), v = .tuple [.str a, .int b, .int e] := by
  rcases h with ⟨s, d, rfl, _⟩ | rfl
  · exact ⟨_, _, _, rfl⟩
  · exact ⟨_, _, _, rfl⟩
theorem step_st {a : Str} {b e : Int} {c : Nat} {Q : D → Prop} (h : StOk (.tuple [.str a, .int b, .int e])) (q : ∀ v, StOk v → Q v) : stepF [.str a, .int b, .int e, .str ⟨#[c]⟩] Q := by
  rcases h with ⟨s, d, h, hd⟩ | h
  · unfold stD at h
    injection h with h
    injection h with h1 h
    injection h with h2 h
    injection h with h3 h
    injection h1 with h1
    injection h2 with h2
    injection h3 with h3
    subst h1 h2 h3
    refine .inl ⟨s, d, c, rfl, hd, q _ ?_⟩
    cases hs : stp s d c with
    | none => exact .inr rfl
    | some p => exact .inl ⟨p.1, p.2, rfl, stp_dp hd hs⟩
  · unfold deadD at h
    injection h with h
    injection h with h1 h
    injection h with h2 h
    injection h with h3 h
    injection h1 with h1
    injection h2 with h2
    injection h3 with h3
    subst h1 h2 h3
    exact .inr ⟨c, rfl, q _ (.inr rfl)⟩
theorem ite_el {b : Bool} {A B : Prop} (h1 : b = true → A) (h2 : b = false → B) : if b = true then A else B := by
  cases b with
  | true => exact h1 rfl
  | false => exact h2 rfl
theorem str_ok1 {c : Nat} (h : c < 128) : PyData.strOk ⟨#[c]⟩ = true := by
  unfold PyData.strOk
  rw [Array.all_eq_true']
  intro x hx
  have e : x = c := by simpa using hx
  subst e
  simp
  omega
theorem lay_ones : ∀ cs : List Nat, (∀ c ∈ cs, c < 128) → PyData.canLayAll0 (ones cs) = true ∧ PyData.depthAll (ones cs) ≤ 1
  | [], _ => ⟨rfl, by decide⟩
  | c :: cs, h => by
    obtain ⟨a, b⟩ := lay_ones cs fun c m => h c (List.mem_cons_of_mem _ m)
    have hc := str_ok1 (h c (List.mem_cons_self ..))
    unfold ones at a b ⊢
    rw [List.map_cons]
    constructor
    · simp only [PyData.canLayAll0, PyData.canLay0, hc, Bool.true_and]; exact a
    · simp only [PyData.depthAll, PyData.depth]; omega
theorem shL_ones (cs : List Nat) (h : ∀ c ∈ cs, c < 128) : Sh (.list (ones cs)) := by
  obtain ⟨a, b⟩ := lay_ones cs h
  show (PyData.canLay0 _ && decide (PyData.depth _ ≤ 64)) = true
  rw [Bool.and_eq_true, decide_eq_true_eq]
  exact ⟨by simpa [PyData.canLay0] using a, by simp only [PyData.depth]; omega⟩
theorem menu_lt : ∀ c ∈ (Str.ofString "((() -019abz8").cps.toList, c < 128 := by decide +kernel
theorem ones_sum (cs : List Nat) : ((cs.map fun c => (⟨#[c]⟩ : Str)).map (·.length)).sum = cs.length := by
  induction cs with
  | nil => rfl
  | cons c cs ih => rw [List.map_cons, List.map_cons, List.sum_cons, ih, List.length_cons]; show 1 + cs.length = _; omega
theorem gone_tail {z x : Str} {size : Nat} {me : Option D} {v : D} {a6 a7 a9 : Option D} {c n : Nat} {E : DEnds} (hv : StOk v) (hl : x.length + 1 ≤ sizeLine)
    (k : ∀ v', StOk v' → E.nx { δ := [none, some (.str z), some (.int (size : Nat)), me, some (.str (x ++ ⟨#[c]⟩)), some v', a6, a7, some (.str ⟨#[c]⟩), a9], n := n }) :
    dSeq (dSet 5 (dCall stepF (dCons (dOp ixD (dV 5) (dC (.int 0))) (dCons (dOp ixD (dV 5) (dC (.int 1))) (dCons (dOp ixD (dV 5) (dC (.int 2))) (dCons (dV 8) dNil)))))) (dSet 4 (dOp addD (dV 4) (dV 8))) E
      { δ := [none, some (.str z), some (.int (size : Nat)), me, some (.str x), some v, a6, a7, some (.str ⟨#[c]⟩), a9], n := n } := by
  obtain ⟨sa, sb, se, rfl⟩ := hv.sh
  refine ix_ok (ds := [.str sa, .int sb, .int se]) 0 rfl rfl ?_
  refine ix_ok (ds := [.str sa, .int sb, .int se]) 1 rfl rfl ?_
  refine ix_ok (ds := [.str sa, .int sb, .int se]) 2 rfl rfl ?_
  dsimp only [dCons, dNil, dV, List.set_cons_succ, List.set_cons_zero, List.getElem?_cons_succ, List.getElem?_cons_zero]
  refine step_st hv fun v' hv' => ?_
  exact ⟨hl, k v' hv'⟩
def endT : Aut → Str
  | .start => Str.ofString "()"
  | .blank => Str.ofString "a"
  | .minus => Str.ofString "1"
  | _ => Str.ofString ""
theorem tl_endT (s : Aut) : tl (endT s) = endL s := by cases s <;> simp only [endT, endL] <;> decide +kernel
theorem endT_len (s : Aut) : (endT s).length ≤ 2 := by rw [TL.len_tl, tl_endT]; cases s <;> simp [endL]
theorem get_end (s : Aut) : (findS ((List.map PyData.str [Str.ofString "start", Str.ofString "blank", Str.ofString "minus"]).zip [.str (Str.ofString "()"), .str (Str.ofString "a"), .str (Str.ofString "1")]) (Str.ofString s.nm)).getD (.str (Str.ofString "")) = .str (endT s) := by
  cases s <;> rfl
theorem tl_repS1 {x : Str} {c : Nat} (h : tl x = [c]) (n : Nat) : tl (repS x n) = List.replicate n c := by
  show (List.replicate n (tl x)).flatten = _
  rw [h]
  induction n with
  | zero => rfl
  | succ n ih => rw [List.replicate_succ, List.flatten_cons, ih]; rfl
def goneF : DFP := fun ds n Q => ∃ (z : Str) (size : Nat), ds = [.str z, .int (size : Nat)] ∧ z.length ≤ 200000 ∧ size ≤ 60 ∧ n + 1000 ≤ 1000000000 ∧ ∀ (x : Str) (n' : Nat), x.length ≤ z.length + size → n' ≤ n + 8 * size → Q (.str x) n'
def drawnF : DFP := fun ds n Q => match ds with
  | [] => n + 200000 ≤ 1000000000 ∧ ∀ (x : Str) (n' : Nat), x.length ≤ 110000 → n' ≤ n + 110000 → Q (.str x) n'
  | _ => False
def closedF : DF := fun ds Q => match ds with
  | [d] => (match d with
    | .str z => z.length ≤ 500000 ∧ (going .start 0 (tl z)).2 = (tl z).length ∧ ∀ x : Str, tl x = tl z ++ (endL (going .start 0 (tl z)).1.1 ++ List.replicate (going .start 0 (tl z)).1.2 41) → Q (.str x)
    | _ => False)
  | _ => False
def wholeF : DFP := fun ds n Q => match ds with
  | [d] => (match d with
    | .str z => z.length ≤ 200000 ∧ n + 1000 ≤ 1000000000 ∧ ∀ n' : Nat, n' ≤ n + 100 → Q (.bool true) n'
    | _ => False)
  | _ => False
section
variable {P : Program} {w : World} {K : PySem.W.Frag} {mg : Str → Option Value} {base : Heap}
theorem ok__law_wgone (T : Tx K mg) (O__law_take : Ok P w K mg base 2 "_law_take" ["_law_pen", "_law_many"] (spP K 1 .E takeF)) (O__law_wsign : Ok P w K mg base 3 "_law_wsign" ["_law_pen"] (spP K 0 .E signF)) (O__law_wstep : Ok P w K mg base 1 "_law_wstep" ["_law_state", "_law_many", "_law_depth", "_law_sign"] (spN K 4 .E stepF)) (O__law_wend : Ok P w K mg base 2 "_law_wend" ["_law_signs"] (spN K 1 .E endF)) : Ok P w K mg base 4 "_law_wgone" ["_law_pen", "_law_signs", "_law_size"] (spP K 2 .E goneF) := by
  refine Ok.ofP (M := []) T.d__law_wgone sc__law_wgone rfl (by decide) (by decide) fun f cdv A outer s H E p c hr => ⟨_, _, (pss_cons (ps_set (i := 3) sc__law_wgone.nd rfl (Or.inl rfl) (pe_str))
 (pss_cons (ps_set (i := 4) sc__law_wgone.nd rfl (Or.inl rfl) (pv 1))
 (pss_cons (ps_set (i := 5) sc__law_wgone.nd rfl (Or.inr rfl) (pe_ix (ixG K rfl) (pe_fn O__law_wend (hr.mono (by omega)) (by rfl) (pa_cons (pv 1) (pa_nil))) (pe_int) (fun _ _ => rfl)))
 (pss_cons (ps_for PassesOwn.never rfl (pi_range1 (by rfl) T.z_range (pa_cons (pv 2) (pa_nil))) (pg_nameL (i := 6) sc__law_wgone.nd rfl rfl)
 (pss_cons (ps_setLc (i := 7) (own := [("_law_sign", 8)]) rfl sc__law_wgone.nd rfl rfl (sw_true rfl rfl rfl (by decide +kernel)) (pi_str (pv 3)) (blkOk_by (own := [("_law_sign", 8)]) (N := ["_law_pen", "_law_signs", "_law_size", "_law_menu", "_law_found", "_law_state", "_law_k", "_law_some", "_law_sign", "_law_loose"]) (sc := defScope s__law_wgone) (by decide +kernel)) (fun _ _ _ _ _ => pg_nameL (i := 8) sc__law_wgone.nd rfl rfl) (fun _ _ _ _ _ => pts_one (pt_cmpR (neG K rfl hr.units) (pe_ix (ixG K rfl) (pe_fn O__law_wstep (hr.mono (by omega)) (by rfl) (pa_cons (pe_ix (ixG K rfl) (pv 5) (pe_int) (fun _ _ => rfl)) (pa_cons (pe_ix (ixG K rfl) (pv 5) (pe_int) (fun _ _ => rfl)) (pa_cons (pe_ix (ixG K rfl) (pv 5) (pe_int) (fun _ _ => rfl)) (pa_cons (pv 8) (pa_nil)))))) (pe_int) (fun _ _ => rfl)) (pe_str) (nomark _))) (fun _ _ _ _ _ => pv 8))
 (pss_cons (ps_set (i := 9) sc__law_wgone.nd rfl (Or.inl rfl) (pe_or (pe_cmpR (eqG K rfl hr.units) (pe_fn O__law_take (hr.mono (by omega)) (by rfl) (pa_cons (pv 0) (pa_cons (pe_int) (pa_nil)))) (pe_int) (nomark _)) (pe_one (pe_cmpR (eqG K rfl hr.units) (pv 7) (pe_lst (pa_nil)) (nomark _)))))
 (pss_cons (ps_set (i := 8) sc__law_wgone.nd rfl (Or.inl rfl) (pe_ifExp (pt_val (pv 9)) (pe_fn O__law_wsign (hr.mono (by omega)) (by rfl) (pa_cons (pv 0) (pa_nil))) (pe_ix (ixG K rfl) (pv 7) (pe_fn O__law_take (hr.mono (by omega)) (by rfl) (pa_cons (pv 0) (pa_cons (pe_callB (lenG K rfl) (by rfl) T.z_len boot_len (pa_cons (pv 7) (pa_nil))) (pa_nil)))) (fun _ _ => rfl))))
 (pss_cons (ps_set (i := 5) sc__law_wgone.nd rfl (Or.inr rfl) (pe_fn O__law_wstep (hr.mono (by omega)) (by rfl) (pa_cons (pe_ix (ixG K rfl) (pv 5) (pe_int) (fun _ _ => rfl)) (pa_cons (pe_ix (ixG K rfl) (pv 5) (pe_int) (fun _ _ => rfl)) (pa_cons (pe_ix (ixG K rfl) (pv 5) (pe_int) (fun _ _ => rfl)) (pa_cons (pv 8) (pa_nil)))))))
 (pss_one (ps_set (i := 4) sc__law_wgone.nd rfl (Or.inl rfl) (pe_op (addG K rfl) (pv 4) (pv 8)))))))))
 (pss_one (ps_ret (pv 4))))))),
 (simS_seq (simS_set 3 (nm rfl) (np rfl) (sim_str _))
 (simS_seq (simS_set 4 (nm rfl) (np rfl) (sim_var 1 (nm rfl)))
 (simS_seq (simS_set 5 (nm rfl) (np rfl) (opA_ix (sim_call (simA_cons (sim_var 1 (nm rfl)) (simA_nil))) (sim_int _)))
 (simS_cut (simS_for (simI_range1 (sim_var 2 (nm rfl))) (simG_name 6 (nm rfl) (np rfl))
 (simS_seq (simS_set 7 (nm rfl) (np rfl) (sim_lc (simI_str (sim_var 3 (nm rfl))) (simG_name 8 (nm rfl) (np rfl)) (simT_test (sim_op opA_ne (opA_ix (sim_call (simA_cons (opA_ix (sim_var 5 (nm rfl)) (sim_int _)) (simA_cons (opA_ix (sim_var 5 (nm rfl)) (sim_int _)) (simA_cons (opA_ix (sim_var 5 (nm rfl)) (sim_int _)) (simA_cons (sim_var 8 (nm rfl)) (simA_nil)))))) (sim_int _)) (sim_str _))) (sim_var 8 (nm rfl)) (inv' rfl) (nmv rfl) (npv rfl)))
 (simS_seq (simS_set 9 (nm rfl) (np rfl) (sim_orV (sim_op opA_eq (sim_callP (by simp) rfl (simA_cons (sim_int _) (simA_nil))) (sim_int _)) (sim_op opA_eq (sim_var 7 (nm rfl)) (sim_lst (by decide) (simA_nil)))))
 (simS_cut (simS_set 8 (nm rfl) (np rfl) (sim_if (simT_B (sim_var 9 (nm rfl))) (Sim.toE (sim_callP (by simp) rfl (simA_nil))) (Sim.toE (opA_ix (sim_var 7 (nm rfl)) (sim_callP (by simp) rfl (simA_cons (sim_cb caA_len (simA_cons (sim_var 7 (nm rfl)) (simA_nil))) (simA_nil)))))))
 (simS_seq (simS_set 5 (nm rfl) (np rfl) (sim_call (simA_cons (opA_ix (sim_var 5 (nm rfl)) (sim_int _)) (simA_cons (opA_ix (sim_var 5 (nm rfl)) (sim_int _)) (simA_cons (opA_ix (sim_var 5 (nm rfl)) (sim_int _)) (simA_cons (sim_var 8 (nm rfl)) (simA_nil)))))))
 (simS_set 4 (nm rfl) (np rfl) (sim_op opA_add (sim_var 4 (nm rfl)) (sim_var 8 (nm rfl)))))))))
 (simS_ret (Sim.toE (sim_var 4 (nm rfl)))))))), ?_⟩
  intro ds m Q hl hF
  obtain ⟨z, size, rfl, hz, hsz, hm, k⟩ := hF
  have sz : z.length ≤ sizeLine := small_big (by (first | omega | (dsimp only; omega) | (dsimp only at *; omega)))
  refine ⟨sz, ?_⟩
  have hdp := going_dp (tl z) .start 0 trivial (by omega)
  unfold endD
  refine ix_ok (ds := [stD _ _, .int _]) 0 rfl rfl ?_
  refine ⟨fun s => ∃ (x : Str) (n' : Nat) (v : D) (a b e g : Option D), s = { δ := [none, some (.str z), some (.int (size : Nat)), some (.str (Str.ofString "((() -019abz8")), some (.str x), some v, a, b, e, g], n := n' } ∧ x.length ≤ z.length + size ∧ n' ≤ m + 8 * size, ?_, ?_⟩
  rotate_left
  · rintro s ⟨x, n', v, a, b, e, g, rfl, h1, h2⟩
    exact k x n' h1 h2
  refine ⟨⟨by (first | omega | (dsimp only; omega) | (dsimp only at *; omega)), by (first | omega | (dsimp only; omega) | (dsimp only at *; omega))⟩, forD_ind (fun t s => ∃ (x : Str) (n' : Nat) (v : D) (a b e g : Option D), s = { δ := [none, some (.str z), some (.int (size : Nat)), some (.str (Str.ofString "((() -019abz8")), some (.str x), some v, a, b, e, g], n := n' } ∧ StOk v ∧ x.length ≤ z.length + t ∧ n' ≤ m + 8 * t ∧ t ≤ size) ⟨z, m, _, none, none, none, none, rfl, .inl ⟨_, _, rfl, hdp.1⟩, by omega, by omega, by omega⟩ ?_ ?_⟩
  rotate_left
  · rintro s ⟨x, n', v, a, b, e, g, rfl, hv, h1, h2, h3⟩
    rw [rgD_len] at h1 h2
    have e0 : ((size : Nat) : Int).toNat = size := by omega
    rw [e0] at h1 h2
    exact ⟨x, n', v, a, b, e, g, rfl, h1, h2⟩
  rintro t d s N hd ⟨x, n1, v, a, b, e, g, rfl, hv, h1, h2, h3⟩ hN
  obtain ⟨ht, rfl⟩ := rgD_get hd
  have ht : t < size := by omega
  have lm : (signs (Str.ofString "((() -019abz8")).length = 13 := by decide +kernel
  refine ⟨by rw [lm]; exact small_line (by omega), lcD_ind (fun i acc s => ∃ (cs : List Nat) (e : Option D), acc = ones cs ∧ cs.length ≤ i ∧ (∀ c ∈ cs, c < 128) ∧ s = { δ := [none, some (.str z), some (.int (size : Nat)), some (.str (Str.ofString "((() -019abz8")), some (.str x), some v, some (.int (0 + (t : Nat))), b, e, g], n := n1 }) ⟨[], none, rfl, by simp, (fun c h => nomatch h), rfl⟩ ?_ ?_⟩
  · rintro i d acc s N hi ⟨cs, e, rfl, hc, hcs, rfl⟩ hN
    unfold signs at hi
    rw [List.getElem?_map] at hi
    obtain ⟨c, hc', rfl⟩ := Option.map_eq_some_iff.mp hi
    obtain ⟨sa, sb, se, rfl⟩ := hv.sh
    refine ix_ok (ds := [.str sa, .int sb, .int se]) 0 rfl rfl ?_
    refine ix_ok (ds := [.str sa, .int sb, .int se]) 1 rfl rfl ?_
    refine ix_ok (ds := [.str sa, .int sb, .int se]) 2 rfl rfl ?_
    dsimp only [dCons, dNil, dV, List.set_cons_succ, List.set_cons_zero, List.getElem?_cons_succ, List.getElem?_cons_zero]
    refine step_st hv fun v' hv' => ?_
    obtain ⟨ta, tb, te, rfl⟩ := hv'.sh
    refine ix_ok (ds := [.str ta, .int tb, .int te]) 0 rfl rfl ?_
    refine ite_el (b := !decide (ta = Str.ofString "")) (fun _ => ?_) (fun _ => ?_)
    · refine hN _ _ ⟨cs ++ [c], none, by unfold ones; rw [List.map_append]; rfl, by rw [List.length_append]; exact Nat.succ_le_succ hc, fun c1 h1 => ?_, rfl⟩
      rcases List.mem_append.mp h1 with h1 | h1
      · exact hcs c1 h1
      · rw [List.mem_singleton.mp h1]; exact menu_lt c (List.mem_of_getElem? hc')
    · exact hN _ _ ⟨cs, none, rfl, by omega, hcs, rfl⟩
  · rintro acc s ⟨cs, e, rfl, hc, hcs, rfl⟩
    rw [lm] at hc
    refine take_ok (by (first | omega | (dsimp only; omega) | (dsimp only at *; omega))) (by decide) (by decide) fun r r0 r1 => ?_
    by_cases h0 : r = 0
    · subst h0
      refine ⟨fun s => ∃ (c : Nat) (n' : Nat), s = { δ := [none, some (.str z), some (.int (size : Nat)), some (.str (Str.ofString "((() -019abz8")), some (.str x), some v, some (.int (0 + (t : Nat))), some (.list (ones cs)), some (.str ⟨#[c]⟩), some (.bool true)], n := n' } ∧ n' ≤ n1 + 8, ?_, ?_⟩
      · refine ⟨by show n1 + 1 + 10 ≤ _; (first | omega | (dsimp only; omega) | (dsimp only at *; omega)), fun y n3 hy hn3 => ?_⟩
        obtain ⟨c, rfl⟩ := one_of hy
        have hn3 : n3 ≤ n1 + 1 + 4 := hn3
        exact ⟨c, n3, rfl, by omega⟩
      · rintro s ⟨c, n3, rfl, hn3⟩
        refine gone_tail hv (small_big (by omega)) fun v' hv' => hN _ ⟨_, n3, v', _, _, _, _, rfl, hv', ?_, by omega, by omega⟩
        rw [len_app]
        show x.length + 1 ≤ _
        omega
    · dsimp only [dC, eqD, eqB]
      rw [decide_eq_false h0]
      refine ⟨shL_ones cs hcs, (show SeqAt.shaped (.list []) = true by decide +kernel), ?_⟩
      cases cs with
      | nil =>
      refine ⟨fun s => ∃ (c : Nat) (n' : Nat), s = { δ := [none, some (.str z), some (.int (size : Nat)), some (.str (Str.ofString "((() -019abz8")), some (.str x), some v, some (.int (0 + (t : Nat))), some (.list (ones [])), some (.str ⟨#[c]⟩), some (.bool true)], n := n' } ∧ n' ≤ n1 + 8, ?_, ?_⟩
      · refine ⟨by show n1 + 1 + 10 ≤ _; (first | omega | (dsimp only; omega) | (dsimp only at *; omega)), fun y n3 hy hn3 => ?_⟩
        obtain ⟨c, rfl⟩ := one_of hy
        have hn3 : n3 ≤ n1 + 1 + 4 := hn3
        exact ⟨c, n3, rfl, by omega⟩
      · rintro s ⟨c, n3, rfl, hn3⟩
        refine gone_tail hv (small_big (by omega)) fun v' hv' => hN _ ⟨_, n3, v', _, _, _, _, rfl, hv', ?_, by omega, by omega⟩
        rw [len_app]
        show x.length + 1 ≤ _
        omega
      | cons c0 cs' =>
      have lo1 : (ones (c0 :: cs')).length = (c0 :: cs').length := by unfold ones; rw [List.length_map]
      refine ⟨fun s => ∃ (c : Nat) (n' : Nat), s = { δ := [none, some (.str z), some (.int (size : Nat)), some (.str (Str.ofString "((() -019abz8")), some (.str x), some v, some (.int (0 + (t : Nat))), some (.list (ones (c0 :: cs'))), some (.str ⟨#[c]⟩), some (.bool false)], n := n' } ∧ n' ≤ n1 + 8, ?_, ?_⟩
      · refine take_ok (by (first | omega | (dsimp only; omega) | (dsimp only at *; omega))) (by show (0 : Int) < (((ones (c0 :: cs')).length : Nat) : Int); rw [lo1]; exact Int.natCast_pos.mpr (by simp)) (by show (((ones (c0 :: cs')).length : Nat) : Int) < 2 ^ 63; rw [lo1]; (first | omega | (dsimp only; omega) | (dsimp only at *; omega))) fun r r0 r1 => ?_
        have r1 : r < (((ones (c0 :: cs')).length : Nat) : Int) := r1
        rw [lo1] at r1
        have hr : r.toNat < (c0 :: cs').length := by omega
        refine ix_ok (d := .str ⟨#[(c0 :: cs')[r.toNat]]⟩) r.toNat (by omega) ?_ ⟨_, _, rfl, by show n1 + 1 + 1 ≤ _; omega⟩
        unfold ones
        rw [List.getElem?_map, List.getElem?_eq_getElem hr]
        rfl
      · rintro s ⟨c, n3, rfl, hn3⟩
        refine gone_tail hv (small_big (by omega)) fun v' hv' => hN _ ⟨_, n3, v', _, _, _, _, rfl, hv', ?_, by omega, by omega⟩
        rw [len_app]
        show x.length + 1 ≤ _
        omega
theorem ok__law_wclosed (T : Tx K mg) (O__law_wend : Ok P w K mg base 2 "_law_wend" ["_law_signs"] (spN K 1 .E endF)) : Ok P w K mg base 3 "_law_wclosed" ["_law_signs"] (spN K 1 .E closedF) := by
  refine Ok.ofN (M := []) T.d__law_wclosed sc__law_wclosed rfl (by decide) fun f cdv A outer s H E hr => ⟨_, _, (pss_cons (ps_asg (pe_fn O__law_wend (hr.mono (by omega)) (by rfl) (pa_cons (pv 0) (pa_nil))) (pgT K rfl 2 rfl (pgs_cons (pg_nameL (i := 1) sc__law_wclosed.nd rfl rfl) (pgs_cons (pg_nameL (i := 2) sc__law_wclosed.nd rfl rfl) (pgs_nil)))))
 (pss_cons (ps_if (pt_cmpR op_lt (pv 2) (pe_callB (lenG K rfl) (by rfl) T.z_len boot_len (pa_cons (pv 0) (pa_nil))) (nomark _))
 (pss_one (ps_ret (pe_non)))
 (pss_nil))
 (pss_cons (ps_set (i := 3) sc__law_wclosed.nd rfl (Or.inl rfl) (pe_disp (pps_cons pe_str (pe_str) (pps_cons pe_str (pe_str) (pps_cons pe_str (pe_str) (pps_nil)))) rfl rfl (by simp) (by decide)))
 (pss_one (ps_ret (pe_op (addG K rfl) (pe_op (addG K rfl) (pv 0) (pe_dget2 (lt_u1 (u65 hr.toRoom)) (pv 3) (pe_ix (ixG K rfl) (pv 1) (pe_int) (fun _ _ => rfl)) (pe_str) ⟨by rfl, by rfl, by rfl, by rfl⟩)) (pe_op op_repS (pe_str) (pe_ix (ixG K rfl) (pv 1) (pe_int) (fun _ _ => rfl))))))))),
 (simS_seq (simS_asg (sim_call (simA_cons (sim_var 0 (nm rfl)) (simA_nil))) (simG_tup (simGs_cons (simG_name 1 (nm rfl) (np rfl)) (simGs_cons (simG_name 2 (nm rfl) (np rfl)) (simGs_nil)))))
 (simS_seq (simS_if (simT_test (sim_op (opA_cmp _) (sim_var 2 (nm rfl)) (sim_cb caA_len (simA_cons (sim_var 0 (nm rfl)) (simA_nil)))))
 (simS_ret (Sim.toE (sim_non)))
 (simS_next))
 (simS_seq (simS_set 3 (nm rfl) (np rfl) (sim_disp (by decide +kernel) (by decide) (simP_cons (sim_str _) (simP_cons (sim_str _) (simP_cons (sim_str _) (simP_nil))))))
 (simS_ret (Sim.toE (sim_op opA_add (sim_op opA_add (sim_var 0 (nm rfl)) (sim_dget2 (sim_var 3 (nm rfl)) (opA_ix (sim_var 1 (nm rfl)) (sim_int _)) (sim_str _))) (sim_op opA_repS (sim_str _) (opA_ix (sim_var 1 (nm rfl)) (sim_int _))))))))), ?_⟩
  intro ds Q hl hF
  match ds, hl with
  | [d], _ =>
  cases d <;> first | exact hF.elim | skip
  rename_i z _
  obtain ⟨hz, hg, q⟩ := hF
  have sz : z.length ≤ sizeLine := small_big (by (first | omega | (dsimp only; omega) | (dsimp only at *; omega)))
  have hdp := going_dp (tl z) .start 0 trivial (by omega)
  refine ⟨sz, ?_⟩
  unfold endD
  generalize going .start 0 (tl z) = g at hg hdp q ⊢
  obtain ⟨⟨s, d⟩, n⟩ := g
  have hg : n = (tl z).length := hg
  have hd4 : d ≤ 40 := hdp.2
  have hlz : z.length = (tl z).length := TL.len_tl z
  refine ⟨rfl, sz, ?_⟩
  refine ifn (show ¬ decide (((n : Nat) : Int) < ((z.length : Nat) : Int)) = true from fun h => by have := of_decide_eq_true h; omega) ?_
  refine ix_ok (ds := [.str (Str.ofString s.nm), .int (s.many : Nat), .int (d : Nat)]) 0 rfl rfl ?_
  dsimp only [dC]
  rw [get_end s]
  have l0 := endT_len s
  refine ⟨small_big (by omega), ?_⟩
  refine ix_ok (ds := [.str (Str.ofString s.nm), .int (s.many : Nat), .int (d : Nat)]) 2 rfl rfl ?_
  have l1 : (Str.ofString ")").length = 1 := by decide +kernel
  refine ⟨by omega, by omega, by rw [l1]; exact small_line (by omega), by rw [len_app, repS_len, l1]; exact small_big (by omega), q _ ?_⟩
  rw [TL.tl_append, TL.tl_append, tl_endT, List.append_assoc]
  congr 2
  show tl (repS (Str.ofString ")") (d : Int).toNat) = _
  rw [Int.toNat_natCast]
  exact tl_repS1 tl_rp d
theorem ok__law_wdrawn (T : Tx K mg) (O__law_take : Ok P w K mg base 2 "_law_take" ["_law_pen", "_law_many"] (spP K 1 .E takeF)) (O__law_wsign : Ok P w K mg base 3 "_law_wsign" ["_law_pen"] (spP K 0 .E signF)) (O__law_wgone : Ok P w K mg base 4 "_law_wgone" ["_law_pen", "_law_signs", "_law_size"] (spP K 2 .E goneF)) (O__law_wtree : Ok P w K mg base 8 "_law_wtree" ["_law_pen", "_law_deep"] (spP K 1 .E treeF)) (O__law_wshow : Ok P w K mg base 42 "_law_wshow" ["_law_thing"] (spN K 1 .E (showF 41))) : Ok P w K mg base 43 "_law_wdrawn" ["_law_pen"] (spP K 0 .E drawnF) := by
  refine Ok.ofP (M := []) T.d__law_wdrawn sc__law_wdrawn rfl (by decide) (by decide) fun f cdv A outer s H E p c hr => ⟨_, _, (pss_cons (ps_set (i := 1) sc__law_wdrawn.nd rfl (Or.inl rfl) (pe_fn O__law_take (hr.mono (by omega)) (by rfl) (pa_cons (pv 0) (pa_cons (pe_int) (pa_nil)))))
 (pss_cons (ps_if (pt_cmpR (eqG K rfl hr.units) (pv 1) (pe_int) (nomark _))
 (pss_one (ps_ret (joinK K rfl (pe_str) (pe_lc (own := [("_law_k", 2)]) rfl sc__law_wdrawn.nd (pi_range1 (by rfl) T.z_range (pa_cons (pe_fn O__law_take (hr.mono (by omega)) (by rfl) (pa_cons (pv 0) (pa_cons (pe_int) (pa_nil)))) (pa_nil))) (blkOk_by (own := [("_law_k", 2)]) (N := ["_law_pen", "_law_way", "_law_k", "_law_signs"]) (sc := defScope s__law_wdrawn) (by decide +kernel)) (fun _ _ _ _ _ => pg_nameL (i := 2) sc__law_wdrawn.nd rfl rfl) (fun _ _ _ _ _ => pts_nil) (fun _ _ _ _ _ => pe_fn O__law_wsign (hr.mono (by omega)) (by rfl) (pa_cons (pv 0) (pa_nil)))))))
 (pss_nil))
 (pss_cons (ps_if (pt_cmpR (eqG K rfl hr.units) (pv 1) (pe_int) (nomark _))
 (pss_one (ps_ret (pe_fn O__law_wgone (hr.mono (by omega)) (by rfl) (pa_cons (pv 0) (pa_cons (pe_str) (pa_cons (pe_fn O__law_take (hr.mono (by omega)) (by rfl) (pa_cons (pv 0) (pa_cons (pe_int) (pa_nil)))) (pa_nil)))))))
 (pss_nil))
 (pss_cons (ps_set (i := 3) sc__law_wdrawn.nd rfl (Or.inl rfl) (pe_fn O__law_wshow (hr.mono (by omega)) (by rfl) (pa_cons (pe_fn O__law_wtree (hr.mono (by omega)) (by rfl) (pa_cons (pv 0) (pa_cons (pe_op (addG K rfl) (pe_int) (pe_fn O__law_take (hr.mono (by omega)) (by rfl) (pa_cons (pv 0) (pa_cons (pe_int) (pa_nil))))) (pa_nil)))) (pa_nil))))
 (pss_cons (ps_if (pt_cmpR (eqG K rfl hr.units) (pv 1) (pe_int) (nomark _))
 (pss_one (ps_ret (pv 3)))
 (pss_nil))
 (pss_one (ps_ret (pe_fn O__law_wgone (hr.mono (by omega)) (by rfl) (pa_cons (pv 0) (pa_cons (pe_slice (slG K rfl) (pv 3) po_none (po_some (pe_fn O__law_take (hr.mono (by omega)) (by rfl) (pa_cons (pv 0) (pa_cons (pe_op (addG K rfl) (pe_callB (lenG K rfl) (by rfl) T.z_len boot_len (pa_cons (pv 3) (pa_nil))) (pe_int)) (pa_nil)))))) (pa_cons (pe_fn O__law_take (hr.mono (by omega)) (by rfl) (pa_cons (pv 0) (pa_cons (pe_int) (pa_nil)))) (pa_nil)))))))))))),
 (simS_seq (simS_set 1 (nm rfl) (np rfl) (sim_callP (by simp) rfl (simA_cons (sim_int _) (simA_nil))))
 (simS_seq (simS_if (simT_test (sim_op opA_eq (sim_var 1 (nm rfl)) (sim_int _)))
 (simS_ret (Sim.toE (sim_join (sim_str _) (sim_lc (simI_range1 (sim_callP (by simp) rfl (simA_cons (sim_int _) (simA_nil)))) (simG_name 2 (nm rfl) (np rfl)) (simT_yes) (sim_callP (by simp) rfl (simA_nil)) (inv' rfl) (nmv rfl) (npv rfl)))))
 (simS_next))
 (simS_seq (simS_if (simT_test (sim_op opA_eq (sim_var 1 (nm rfl)) (sim_int _)))
 (simS_ret (Sim.toE (sim_callP (by simp) rfl (simA_cons (sim_str _) (simA_cons (sim_callP (by simp) rfl (simA_cons (sim_int _) (simA_nil))) (simA_nil))))))
 (simS_next))
 (simS_seq (simS_set 3 (nm rfl) (np rfl) (sim_call (simA_cons (sim_callP (by simp) rfl (simA_cons (sim_op opA_add (sim_int _) (sim_callP (by simp) rfl (simA_cons (sim_int _) (simA_nil)))) (simA_nil))) (simA_nil))))
 (simS_seq (simS_if (simT_test (sim_op opA_eq (sim_var 1 (nm rfl)) (sim_int _)))
 (simS_ret (Sim.toE (sim_var 3 (nm rfl))))
 (simS_next))
 (simS_ret (Sim.toE (sim_callP (by simp) rfl (simA_cons (sim_sl (sim_var 3 (nm rfl)) simO_none (simO_some (sim_callP (by simp) rfl (simA_cons (sim_op opA_add (sim_cb caA_len (simA_cons (sim_var 3 (nm rfl)) (simA_nil))) (sim_int _)) (simA_nil))))) (simA_cons (sim_callP (by simp) rfl (simA_cons (sim_int _) (simA_nil))) (simA_nil))))))))))), ?_⟩
  intro ds m Q hl hF
  match ds, hl with
  | [], _ =>
  obtain ⟨hm, k⟩ := hF
  refine take_ok (by (first | omega | (dsimp only; omega) | (dsimp only at *; omega))) (by decide) (by decide) fun way w0 w1 => ?_
  by_cases h : way = 0
  · refine ifp (decide_eq_true h) (take_ok (by (first | omega | (dsimp only; omega) | (dsimp only at *; omega))) (by decide) (by decide) fun r r0 r1 => ?_)
    refine ⟨⟨by (first | omega | (dsimp only; omega) | (dsimp only at *; omega)), by (first | omega | (dsimp only; omega) | (dsimp only at *; omega))⟩, by rw [rgD_len]; exact small_line (by (first | omega | (dsimp only; omega) | (dsimp only at *; omega))), lcD_ind (fun i acc s => ∃ (cs : List Nat) (n' : Nat), acc = ones cs ∧ cs.length = i ∧ i ≤ 60 ∧ s = { δ := [none, some (.int way), none, none], n := n' } ∧ n' ≤ m + 2 + 4 * i) ⟨[], _, rfl, rfl, by omega, rfl, by (first | omega | (dsimp only; omega) | (dsimp only at *; omega))⟩ ?_ ?_⟩
    · rintro i d acc s N hi ⟨cs, n1, rfl, hc, h6, rfl, hn1⟩ hN
      obtain ⟨hi, rfl⟩ := rgD_get hi
      refine ⟨by show n1 + 10 ≤ _; (first | omega | (dsimp only; omega) | (dsimp only at *; omega)), fun y n2 hy hn2 => ?_⟩
      obtain ⟨c, rfl⟩ := one_of hy
      have hn2 : n2 ≤ n1 + 4 := hn2
      exact hN _ _ ⟨cs ++ [c], n2, by unfold ones; rw [List.map_append]; rfl, by rw [List.length_append, hc]; rfl, by (first | omega | (dsimp only; omega) | (dsimp only at *; omega)), rfl, by omega⟩
    · rintro acc s ⟨cs, n1, rfl, hc, h6, rfl, hn1⟩
      rw [rgD_len] at hc h6 hn1
      refine ⟨_, strs_ones cs, ?_, ?_⟩
      · rw [ones_sum, TL.len_tl, tl_e]
        simp
        (first | omega | (dsimp only; omega) | (dsimp only at *; omega))
      · rw [join_ones]
        refine k _ _ ?_ (by show n1 ≤ _; (first | omega | (dsimp only; omega) | (dsimp only at *; omega)))
        rw [TL.len_tl]
        show cs.length ≤ _
        (first | omega | (dsimp only; omega) | (dsimp only at *; omega))
  refine ifn (by simpa using h) ?_
  by_cases h : way = 1
  · refine ifp (decide_eq_true h) (take_ok (by (first | omega | (dsimp only; omega) | (dsimp only at *; omega))) (by decide) (by decide) fun r r0 r1 => ?_)
    refine ⟨Str.ofString "", r.toNat, by rw [Int.toNat_of_nonneg r0], by decide +kernel, by (first | omega | (dsimp only; omega) | (dsimp only at *; omega)), by (first | omega | (dsimp only; omega) | (dsimp only at *; omega)), fun x n' hx hn' => k x n' ?_ ?_⟩
    · rw [show (Str.ofString "").length = 0 by decide +kernel] at hx
      (first | omega | (dsimp only; omega) | (dsimp only at *; omega))
    · have hn' : n' ≤ m + 1 + 1 + 8 * r.toNat := hn'
      (first | omega | (dsimp only; omega) | (dsimp only at *; omega))
  refine ifn (by simpa using h) (take_ok (by (first | omega | (dsimp only; omega) | (dsimp only at *; omega))) (by decide) (by decide) fun r r0 r1 => ⟨by (first | omega | (dsimp only; omega) | (dsimp only at *; omega)), by (first | omega | (dsimp only; omega) | (dsimp only at *; omega)), by show m + 1 + 1 + 100000 ≤ _; (first | omega | (dsimp only; omega) | (dsimp only at *; omega)), fun xs n1 v1 v2 v3 => ⟨v1, Nat.le_trans v2 (by decide), ?_⟩⟩)
  have v3 : n1 ≤ m + 1 + 1 + 100000 := v3
  have hL : (Sg (sh (.tuple xs)) : Str).length ≤ 100000 := by rw [TL.len_tl]; exact v2
  generalize (Sg (sh (.tuple xs)) : Str) = y at hL ⊢
  by_cases h : way = 2
  · exact ifp (decide_eq_true h) (k y n1 (by omega) (by omega))
  have sz : y.length ≤ sizeLine := small_big (by omega)
  refine ifn (by simpa using h) ⟨sz, take_ok (by (first | omega | (dsimp only; omega) | (dsimp only at *; omega))) (by (first | omega | (dsimp only; omega) | (dsimp only at *; omega))) (by (first | omega | (dsimp only; omega) | (dsimp only at *; omega))) fun q q0 q1 => ⟨sz, take_ok (by (first | omega | (dsimp only; omega) | (dsimp only at *; omega))) (by decide) (by decide) fun u u0 u1 => ?_⟩⟩
  have cl := cutS_length y none (some q)
  refine ⟨_, u.toNat, by rw [Int.toNat_of_nonneg u0], by omega, by (first | omega | (dsimp only; omega) | (dsimp only at *; omega)), by (first | omega | (dsimp only; omega) | (dsimp only at *; omega)), fun x n' hx hn' => k x n' (by omega) ?_⟩
  have hn' : n' ≤ n1 + 1 + 1 + 8 * u.toNat := hn'
  (first | omega | (dsimp only; omega) | (dsimp only at *; omega))
end

theorem sh_pair (n : Int) : Sh (.tuple [.none, .int n]) := by
  show (PyData.canLay0 _ && decide (PyData.depth _ ≤ 64)) = true
  rfl
theorem eqv_pair (n : Int) : PyData.eqv (.tuple [.none, .int n]) (.tuple [.none, .int n]) = true := by
  simp [PyData.eqv, PyData.eqvAll]
theorem cut_tl (z : Str) (j : Nat) : tl (cutS z none (some (j : Int))) = (tl z).take j := by
  have e : cutS z none (some (j : Int)) = Sg ((tl z).take j) := by
    unfold cutS
    rw [HT.sIx_none, HT.sIx_nat, TL.len_tl]
    refine congrArg Sg ?_
    show List.take _ (List.drop 0 (tl z)) = _
    rw [List.drop_zero, Nat.sub_zero]
    show List.take (min j (tl z).length) (tl z) = _
    rcases Nat.le_total j (tl z).length with h | h
    · rw [Nat.min_eq_left h]
    · rw [Nat.min_eq_right h, List.take_of_length_le (Nat.le_refl _), List.take_of_length_le h]
  rw [e]
theorem chain_d {db dc : DT} {s s' s'' : S} {i j k : Int} {Q : D → S → Prop} (h1 : i ≤ j) (h2 : j ≤ k) (hb : ∀ R : D → S → Prop, R (.int j) s' → db s R) (hc : ∀ R : D → S → Prop, R (.int k) s'' → dc s' R) (q : Q (.bool true) s'') :
    dChain (cmpD fun i j => decide (i ≤ j)) (cmpD fun i j => decide (i ≤ j)) (dC (.int i)) db dc s Q := by
  refine hb _ ?_
  have e1 : decide (i ≤ j) = true := decide_eq_true h1
  have e2 : decide (j ≤ k) = true := decide_eq_true h2
  simp only [cmpD, e1]
  refine hc _ ?_
  simp only [e2]
  exact q
/-- refused at n, whatever is laid behind what stands ahead of it and the sign there -/
theorem told_no {z : Str} {o : Out} {n : Nat} (h : PB' 0 (tl z) o) (h1 : (going .start 0 (tl z)).2 = n) (h2 : (going .start 0 (tl z)).1.1.isFin = false ∨ n ≠ (tl z).length) : told z o = .tuple [.none, .int (n : Nat)] := by
  rcases told_by h with ⟨a1, a2, _⟩ | ⟨_, a⟩
  · rcases h2 with h2 | h2
    · rw [a1] at h2; cases h2
    · exact absurd (h1.symm.trans a2) h2
  · rw [a, h1]
theorem told_yes {z : Str} {o : Out} (h : PB' 0 (tl z) o) (h1 : (going .start 0 (tl z)).2 = (tl z).length) (h2 : (going .start 0 (tl z)).1.1.isFin = true) : ∃ ds, told z o = .tuple [.tuple ds, .none] ∧ vd 40 (.tuple ds) ∧ tl z = sh (.tuple ds) := by
  rcases told_by h with ⟨_, _, h⟩ | ⟨a, _⟩
  · exact h
  · exact absurd ⟨h2, h1⟩ a
theorem orV_of {a b : DT} {s s1 : S} {x : Bool} {Q : D → S → Prop} (ha : ∀ R : D → S → Prop, R (.bool x) s1 → a s R) (h1 : x = true → Q (.bool true) s1) (h2 : x = false → b s1 Q) : dOrV a b s Q := ha _ (by
  cases x with
  | true => exact h1 rfl
  | false => exact h2 rfl)
theorem start_zero : ∀ (L : List Nat) (s : Aut) (d : Nat), (s = .start → d = 0) → (going s d L).1.1 = .start → (going s d L).1.2 = 0
  | [], s, d, h, e => h e
  | c :: r, s, d, h, e => by
    rw [going] at e ⊢
    cases hs : stp s d c with
    | none => rw [hs] at e; exact h e
    | some p =>
      obtain ⟨s', d'⟩ := p
      rw [hs] at e
      refine start_zero r s' d' ?_ e
      intro e'
      subst e'
      cases s <;> simp only [stp] at hs <;> (repeat' split at hs) <;> first | cases hs | skip
section
variable {P : Program} {w : World} {K : PySem.W.Frag} {mg : Str → Option Value} {base : Heap}
theorem ok__law_whole (T : Tx K mg) (O__law_take : Ok P w K mg base 2 "_law_take" ["_law_pen", "_law_many"] (spP K 1 .E takeF)) (O__law_wsign : Ok P w K mg base 3 "_law_wsign" ["_law_pen"] (spP K 0 .E signF)) (O__law_wread : Ok P w K mg base 88 "_law_wread" ["_law_signs"] (spN K 1 .E wreadF)) (O__law_wgood : Ok P w K mg base 43 "_law_wgood" ["_law_thing"] (spN K 1 .E (goodF 41))) (O__law_wshow : Ok P w K mg base 42 "_law_wshow" ["_law_thing"] (spN K 1 .E (showF 41))) (O__law_wclosed : Ok P w K mg base 3 "_law_wclosed" ["_law_signs"] (spN K 1 .E closedF)) : Ok P w K mg base 89 "_law_whole" ["_law_pen", "_law_signs"] (spP K 1 .E wholeF) := by
  refine Ok.ofP (M := []) T.d__law_whole sc__law_whole rfl (by decide) (by decide) fun f cdv A outer s H E p c hr => ⟨_, _, (pss_cons (ps_asg (pe_fn O__law_wread (hr.mono (by omega)) (by rfl) (pa_cons (pv 1) (pa_nil))) (pgT K rfl 2 rfl (pgs_cons (pg_nameL (i := 2) sc__law_whole.nd rfl rfl) (pgs_cons (pg_nameL (i := 3) sc__law_whole.nd rfl rfl) (pgs_nil)))))
 (pss_cons (ps_set (i := 4) sc__law_whole.nd rfl (Or.inl rfl) (joinK K rfl (pe_str) (pe_lc (own := [("_law_k", 5)]) rfl sc__law_whole.nd (pi_range1 (by rfl) T.z_range (pa_cons (pe_op (addG K rfl) (pe_int) (pe_fn O__law_take (hr.mono (by omega)) (by rfl) (pa_cons (pv 0) (pa_cons (pe_int) (pa_nil))))) (pa_nil))) (blkOk_by (own := [("_law_k", 5)]) (N := ["_law_pen", "_law_signs", "_law_told", "_law_place", "_law_tail", "_law_k", "_law_cut", "_law_ended", "_law_again"]) (sc := defScope s__law_whole) (by decide +kernel)) (fun _ _ _ _ _ => pg_nameL (i := 5) sc__law_whole.nd rfl rfl) (fun _ _ _ _ _ => pts_nil) (fun _ _ _ _ _ => pe_fn O__law_wsign (hr.mono (by omega)) (by rfl) (pa_cons (pv 0) (pa_nil))))))
 (pss_cons (ps_if (pt_cmpR op_isN (pv 3) (pe_non) (nomark _))
 (pss_cons (ps_if (PW.pt (pw_or (pt_not (pt_val (pe_fn O__law_wgood (hr.mono (by omega)) (by rfl) (pa_cons (pv 2) (pa_nil))))) (pw_or (pt_cmpR (neG K rfl hr.units) (pe_fn O__law_wshow (hr.mono (by omega)) (by rfl) (pa_cons (pv 2) (pa_nil))) (pv 1) (nomark _)) (pw_or1 (pt_cmpR (neG K rfl hr.units) (pe_fn O__law_wread (hr.mono (by omega)) (by rfl) (pa_cons (pe_op (addG K rfl) (pv 1) (pv 4)) (pa_nil))) (pe_tup (pa_cons (pe_non) (pa_cons (pe_callB (lenG K rfl) (by rfl) T.z_len boot_len (pa_cons (pv 1) (pa_nil))) (pa_nil)))) (nomark _))))))
 (pss_one (ps_ret (pe_bl)))
 (pss_nil))
 (pss_cons (ps_set (i := 6) sc__law_whole.nd rfl (Or.inl rfl) (pe_fn O__law_take (hr.mono (by omega)) (by rfl) (pa_cons (pv 0) (pa_cons (pe_callB (lenG K rfl) (by rfl) T.z_len boot_len (pa_cons (pv 1) (pa_nil))) (pa_nil)))))
 (pss_one (ps_ret (pe_cmpR (eqG K rfl hr.units) (pe_fn O__law_wread (hr.mono (by omega)) (by rfl) (pa_cons (pe_slice (slG K rfl) (pv 1) po_none (po_some (pv 6))) (pa_nil))) (pe_tup (pa_cons (pe_non) (pa_cons (pv 6) (pa_nil)))) (nomark _))))))
 (pss_nil))
 (pss_cons (ps_if (pt_not (pt_chain op_le op_le (pe_int) (pv 3) (pe_callB (lenG K rfl) (by rfl) T.z_len boot_len (pa_cons (pv 1) (pa_nil)))))
 (pss_one (ps_ret (pe_bl)))
 (pss_nil))
 (pss_cons (ps_set (i := 7) sc__law_whole.nd rfl (Or.inl rfl) (pe_fn O__law_wclosed (hr.mono (by omega)) (by rfl) (pa_cons (pe_slice (slG K rfl) (pv 1) po_none (po_some (pv 3))) (pa_nil))))
 (pss_cons (ps_if (pt_cmpR op_isN (pv 7) (pe_non) (nomark _))
 (pss_one (ps_ret (pe_bl)))
 (pss_nil))
 (pss_cons (ps_set (i := 8) sc__law_whole.nd rfl (Or.inl rfl) (pe_fn O__law_wread (hr.mono (by omega)) (by rfl) (pa_cons (pv 7) (pa_nil))))
 (pss_cons (ps_if (PW.pt (pw_or (pt_cmpR op_notN (pe_ix (ixG K rfl) (pv 8) (pe_int) (fun _ _ => rfl)) (pe_non) (nomark _)) (pw_or (pt_not (pt_val (pe_fn O__law_wgood (hr.mono (by omega)) (by rfl) (pa_cons (pe_ix (ixG K rfl) (pv 8) (pe_int) (fun _ _ => rfl)) (pa_nil))))) (pw_or (pt_cmpR (neG K rfl hr.units) (pe_fn O__law_wshow (hr.mono (by omega)) (by rfl) (pa_cons (pe_ix (ixG K rfl) (pv 8) (pe_int) (fun _ _ => rfl)) (pa_nil))) (pv 7) (nomark _)) (pw_or1 (pt_cmpR (eqG K rfl hr.units) (pv 7) (pv 1) (nomark _)))))))
 (pss_one (ps_ret (pe_bl)))
 (pss_nil))
 (pss_one (ps_ret (pe_or (pe_cmpR (eqG K rfl hr.units) (pv 3) (pe_callB (lenG K rfl) (by rfl) T.z_len boot_len (pa_cons (pv 1) (pa_nil))) (nomark _)) (pe_one (pe_cmpR (eqG K rfl hr.units) (pe_fn O__law_wread (hr.mono (by omega)) (by rfl) (pa_cons (pe_op (addG K rfl) (pe_slice (slG K rfl) (pv 1) po_none (po_some (pe_op (addG K rfl) (pv 3) (pe_int)))) (pv 4)) (pa_nil))) (pe_tup (pa_cons (pe_non) (pa_cons (pv 3) (pa_nil)))) (nomark _)))))))))))))),
 (simS_seq (simS_asg (sim_call (simA_cons (sim_var 1 (nm rfl)) (simA_nil))) (simG_tup (simGs_cons (simG_name 2 (nm rfl) (np rfl)) (simGs_cons (simG_name 3 (nm rfl) (np rfl)) (simGs_nil)))))
 (simS_seq (simS_set 4 (nm rfl) (np rfl) (sim_join (sim_str _) (sim_lc (simI_range1 (sim_op opA_add (sim_int _) (sim_callP (by simp) rfl (simA_cons (sim_int _) (simA_nil))))) (simG_name 5 (nm rfl) (np rfl)) (simT_yes) (sim_callP (by simp) rfl (simA_nil)) (inv' rfl) (nmv rfl) (npv rfl))))
 (simS_seq (simS_if (simT_test (sim_op opA_isN (sim_var 3 (nm rfl)) (sim_non)))
 (simS_seq (simS_if (simT_or (simT_not (simT_B (sim_call (simA_cons (sim_var 2 (nm rfl)) (simA_nil))))) (simT_or (simT_test (sim_op opA_ne (sim_call (simA_cons (sim_var 2 (nm rfl)) (simA_nil))) (sim_var 1 (nm rfl)))) (simT_test (sim_op opA_ne (sim_call (simA_cons (sim_op opA_add (sim_var 1 (nm rfl)) (sim_var 4 (nm rfl))) (simA_nil))) (sim_tup (by decide) (simA_cons (sim_non) (simA_cons (sim_cb caA_len (simA_cons (sim_var 1 (nm rfl)) (simA_nil))) (simA_nil))))))))
 (simS_ret (Sim.toE (sim_bl _)))
 (simS_next))
 (simS_seq (simS_set 6 (nm rfl) (np rfl) (sim_callP (by simp) rfl (simA_cons (sim_cb caA_len (simA_cons (sim_var 1 (nm rfl)) (simA_nil))) (simA_nil))))
 (simS_ret (Sim.toE (sim_op opA_eq (sim_call (simA_cons (sim_sl (sim_var 1 (nm rfl)) simO_none (simO_some (sim_var 6 (nm rfl)))) (simA_nil))) (sim_tup (by decide) (simA_cons (sim_non) (simA_cons (sim_var 6 (nm rfl)) (simA_nil)))))))))
 (simS_next))
 (simS_seq (simS_if (simT_not (simT_test (sim_chain (opA_cmp _) (opA_cmp _) (sim_int _) (sim_var 3 (nm rfl)) (sim_cb caA_len (simA_cons (sim_var 1 (nm rfl)) (simA_nil))))))
 (simS_ret (Sim.toE (sim_bl _)))
 (simS_next))
 (simS_seq (simS_set 7 (nm rfl) (np rfl) (sim_call (simA_cons (sim_sl (sim_var 1 (nm rfl)) simO_none (simO_some (sim_var 3 (nm rfl)))) (simA_nil))))
 (simS_seq (simS_if (simT_test (sim_op opA_isN (sim_var 7 (nm rfl)) (sim_non)))
 (simS_ret (Sim.toE (sim_bl _)))
 (simS_next))
 (simS_seq (simS_set 8 (nm rfl) (np rfl) (sim_call (simA_cons (sim_var 7 (nm rfl)) (simA_nil))))
 (simS_seq (simS_if (simT_or (simT_test (sim_op opA_notN (opA_ix (sim_var 8 (nm rfl)) (sim_int _)) (sim_non))) (simT_or (simT_not (simT_B (sim_call (simA_cons (opA_ix (sim_var 8 (nm rfl)) (sim_int _)) (simA_nil))))) (simT_or (simT_test (sim_op opA_ne (sim_call (simA_cons (opA_ix (sim_var 8 (nm rfl)) (sim_int _)) (simA_nil))) (sim_var 7 (nm rfl)))) (simT_test (sim_op opA_eq (sim_var 7 (nm rfl)) (sim_var 1 (nm rfl)))))))
 (simS_ret (Sim.toE (sim_bl _)))
 (simS_next))
 (simS_ret (Sim.toE (sim_orV (sim_op opA_eq (sim_var 3 (nm rfl)) (sim_cb caA_len (simA_cons (sim_var 1 (nm rfl)) (simA_nil)))) (sim_op opA_eq (sim_call (simA_cons (sim_op opA_add (sim_sl (sim_var 1 (nm rfl)) simO_none (simO_some (sim_op opA_add (sim_var 3 (nm rfl)) (sim_int _)))) (sim_var 4 (nm rfl))) (simA_nil))) (sim_tup (by decide) (simA_cons (sim_non) (simA_cons (sim_var 3 (nm rfl)) (simA_nil)))))))))))))))), ?_⟩
  intro ds m Q hl hF
  match ds, hl with
  | [d], _ =>
  cases d <;> first | exact hF.elim | skip
  rename_i z _
  obtain ⟨hz, hm, k⟩ := hF
  have sz : z.length ≤ sizeLine := small_big (by (first | omega | (dsimp only; omega) | (dsimp only at *; omega)))
  obtain ⟨o, ho⟩ := out_of (tl z)
  refine ⟨sz, o, ho, ?_⟩
  have hlz : z.length = (tl z).length := TL.len_tl z
  obtain ⟨a, b, e, hab⟩ : ∃ a b, told z o = .tuple [a, b] ∧ ((b = .none ∧ (going .start 0 (tl z)).1.1.isFin = true ∧ (going .start 0 (tl z)).2 = (tl z).length ∧ ∃ ds, a = .tuple ds ∧ vd 40 (.tuple ds) ∧ tl z = sh (.tuple ds)) ∨ (a = .none ∧ b = .int ((going .start 0 (tl z)).2 : Nat) ∧ ¬ ((going .start 0 (tl z)).1.1.isFin = true ∧ (going .start 0 (tl z)).2 = (tl z).length))) := by
    rcases told_by ho with ⟨a1, a2, ds, a3, a4, a5⟩ | ⟨a1, a2⟩
    · exact ⟨_, _, a3, .inl ⟨rfl, a1, a2, ds, rfl, a4, a5⟩⟩
    · exact ⟨_, _, a2, .inr ⟨rfl, rfl, a1⟩⟩
  rw [e]
  refine ⟨rfl, take_ok (by (first | omega | (dsimp only; omega) | (dsimp only at *; omega))) (by decide) (by decide) fun r r0 r1 => ?_⟩
  refine ⟨⟨by (first | omega | (dsimp only; omega) | (dsimp only at *; omega)), by (first | omega | (dsimp only; omega) | (dsimp only at *; omega))⟩, by rw [rgD_len]; exact small_line (by (first | omega | (dsimp only; omega) | (dsimp only at *; omega))), lcD_ind (fun i acc s => ∃ (cs : List Nat) (n' : Nat), acc = ones cs ∧ cs.length = i ∧ i ≤ 4 ∧ s = { δ := [none, some (.str z), some a, some b, none, none, none, none, none], n := n' } ∧ n' ≤ m + 1 + 4 * i) ⟨[], _, rfl, rfl, by omega, rfl, by (first | omega | (dsimp only; omega) | (dsimp only at *; omega))⟩ ?_ ?_⟩
  · rintro i d acc s N hi ⟨cs, n1, rfl, hc, h6, rfl, hn1⟩ hN
    obtain ⟨hi, rfl⟩ := rgD_get hi
    refine ⟨by show n1 + 10 ≤ _; (first | omega | (dsimp only; omega) | (dsimp only at *; omega)), fun y n2 hy hn2 => ?_⟩
    obtain ⟨c, rfl⟩ := one_of hy
    have hn2 : n2 ≤ n1 + 4 := hn2
    exact hN _ _ ⟨cs ++ [c], n2, by unfold ones; rw [List.map_append]; rfl, by rw [List.length_append, hc]; rfl, by (first | omega | (dsimp only; omega) | (dsimp only at *; omega)), rfl, by omega⟩
  rintro acc s ⟨cs, n1, rfl, hc, h6, rfl, hn1⟩
  rw [rgD_len] at hc h6 hn1
  refine ⟨_, strs_ones cs, ?_, ?_⟩
  · rw [ones_sum, TL.len_tl, tl_e]
    simp
    (first | omega | (dsimp only; omega) | (dsimp only at *; omega))
  rw [join_ones]
  have hcs : 1 ≤ cs.length := by (first | omega | (dsimp only; omega) | (dsimp only at *; omega))
  have hcl : (Sg cs : Str).length = cs.length := by rw [TL.len_tl]
  have tlc : tl (Sg cs) = cs := rfl
  generalize (Sg cs : Str) = y at hcl tlc ⊢
  have fin : ∀ (n : Nat) (n' : Nat), n' ≤ m + 100 → Q (.bool (PyData.eqv (.tuple [.none, .int (n : Nat)]) (.tuple [.none, .int (n : Nat)]))) n' := fun n n' h => by rw [eqv_pair]; exact k n' h
  have hle := going_le (tl z) .start 0
  rcases hab with ⟨rfl, hf, hall, ds, rfl, hv, hsh⟩ | ⟨rfl, rfl, hno⟩
  · have ez : (Sg (sh (.tuple ds)) : Str) = z := TL.ext_tl hsh.symm
    have hl6 : (sh (.tuple ds)).length ≤ 1000000 := by rw [← hsh, ← hlz]; omega
    have hfin := isFin_eq hf
    -- more behind it
    obtain ⟨o2, ho2⟩ := out_of (tl (z ++ y))
    have t2 : told (z ++ y) o2 = .tuple [.none, .int ((tl z).length : Nat)] := by
      have ea : going .start 0 (tl (z ++ y)) = ((.fin, (going .start 0 (tl z)).1.2), (tl z).length) := by
        rw [TL.tl_append, tlc, going_app _ _ _ _ hall, hfin, going_stop (s := .fin) (fun c _ => rfl)]
        rfl
      refine told_no ho2 (by rw [ea]) (.inr ?_)
      rw [TL.tl_append, tlc, List.length_append]
      omega
    dsimp only
    refine seqIf (b := true) (fun Q q => q) (fun _ => ?_) (fun z => nomatch z)
    refine seqIf (b := false || (false || false)) (tst_or (fun Q q => ⟨hv, hl6, q⟩) (tst_or (fun Q q => ⟨hv, hl6, ?_⟩) (fun Q q => ⟨?_, ?_, o2, ho2, ?_⟩))) (fun z => nomatch z) fun _ => ?_
    · show Q (!decide ((Sg (sh (.tuple ds)) : Str) = z)) _
      rw [decide_eq_true ez]
      exact q
    · exact small_big (by rw [hcl]; omega)
    · rw [len_app]; exact small_big (by rw [hcl]; omega)
    · rw [t2, ← hlz]
      refine ⟨sz, sh_pair _, sh_pair _, ?_⟩
      show Q (!PyData.eqv _ _) _
      rw [eqv_pair]
      exact q
    · have hpos : 2 ≤ (tl z).length := by rw [hsh]; simp only [sh]; simp
      refine ⟨sz, take_ok (by (first | omega | (dsimp only; omega) | (dsimp only at *; omega))) (by (first | omega | (dsimp only; omega) | (dsimp only at *; omega))) (by (first | omega | (dsimp only; omega) | (dsimp only at *; omega))) fun q q0 q1 => ?_⟩
      have hq : q = ((q.toNat : Nat) : Int) := by omega
      have hql : q.toNat < (tl z).length := by omega
      rw [hq]
      generalize q.toNat = j at hql ⊢
      obtain ⟨o3, ho3⟩ := out_of (tl (cutS z none (some (j : Int))))
      have cl := cutS_length z none (some (j : Int))
      refine ⟨sz, small_big (by omega), o3, ho3, ?_⟩
      have t3 : told (cutS z none (some (j : Int))) o3 = .tuple [.none, .int (j : Nat)] := by
        have h1 : (going .start 0 ((tl z).take j)).2 = j := going_take _ _ _ _ (by rw [hall]; omega)
        refine told_no ho3 (by rw [cut_tl]; exact h1) (.inl ?_)
        rw [cut_tl]
        cases hx : (going .start 0 ((tl z).take j)).1.1.isFin with
        | false => rfl
        | true =>
          have hl : ((tl z).take j).length = j := by rw [List.length_take]; omega
          have ea := going_app ((tl z).take j) ((tl z).drop j) .start 0 (by rw [h1, hl])
          rw [List.take_append_drop, isFin_eq hx, going_stop (s := .fin) (fun c _ => rfl)] at ea
          rw [ea] at hall
          have hall : ((tl z).take j).length + 0 = (tl z).length := hall
          omega
      rw [t3]
      exact ⟨sh_pair _, sh_pair _, fin j _ (by show n1 + 1 ≤ _; (first | omega | (dsimp only; omega) | (dsimp only at *; omega)))⟩
  · have hst := going_take_st (tl z) .start 0
    have htk := going_take (tl z) .start 0 _ (Nat.le_refl _)
    have hstuck := going_stuck (tl z) .start 0
    have hdp := going_dp (tl z) .start 0 trivial (by omega)
    have hf0 := fin_zero (tl z) .start 0 (fun z => nomatch z) (fun _ => rfl) trivial
    have hs0 := start_zero (tl z) .start 0 (fun _ => rfl)
    generalize hG : going .start 0 (tl z) = G at hno hle hst htk hstuck hdp hf0 hs0 ⊢
    obtain ⟨⟨st, d⟩, n⟩ := G
    dsimp only at hno hle hst htk hstuck hdp hf0 hs0
    have hd4 : d ≤ 40 := hdp.2
    have hnl : ((tl z).take n).length = n := by rw [List.length_take]; omega
    dsimp only
    refine seqIf (b := false) (fun Q q => q) (fun z => nomatch z) (fun _ => ?_)
    refine seqIf (b := false) (fun Q q => chain_d (j := (n : Nat)) (k := (z.length : Nat)) (by omega) (by omega) (fun R r => r) (fun R r => ⟨sz, r⟩) q) (fun z => nomatch z) (fun _ => ?_)
    have cl := cutS_length z none (some (n : Int))
    refine ⟨sz, by omega, by rw [cut_tl, htk, hnl], fun x hx => ?_⟩
    rw [cut_tl, hst] at hx
    dsimp only at hx
    have gx : going .start 0 (tl x) = ((.fin, 0), (tl x).length) := by
      rw [hx, going_app _ _ _ _ (by rw [htk, hnl]), hst, hnl]
      dsimp only
      rw [close_all hdp.1 hs0 hf0]
      unfold more
      rw [List.length_append, List.length_append, List.length_replicate, hnl]
    obtain ⟨o2, ho2⟩ := out_of (tl x)
    obtain ⟨ds, t2, hv, hsh⟩ := told_yes ho2 (by rw [gx]) (by rw [gx]; rfl)
    have hxl : x.length ≤ 300000 := by
      rw [TL.len_tl, hx, List.length_append, List.length_append, List.length_replicate, hnl]
      have : (endL st).length ≤ 2 := by cases st <;> simp [endL]
      omega
    have ex : (Sg (sh (.tuple ds)) : Str) = x := TL.ext_tl hsh.symm
    have hl6 : (sh (.tuple ds)).length ≤ 1000000 := by rw [← hsh, ← TL.len_tl]; omega
    have hne : x ≠ z := fun e => by
      subst e
      rw [gx] at hG
      injection hG with h1 h2
      injection h1 with h1 h3
      exact hno ⟨by rw [← h1]; rfl, h2.symm⟩
    dsimp only
    refine seqIf (b := false) (fun Q q => q) (fun z => nomatch z) (fun _ => ?_)
    refine ⟨small_big (by omega), o2, ho2, ?_⟩
    rw [t2]
    dsimp only
    refine seqIf (b := false || (false || (false || false))) (tst_or (fun Q q => ix_ok (ds := [.tuple ds, .none]) 1 rfl rfl q) (tst_or (fun Q q => ix_ok (ds := [.tuple ds, .none]) 0 rfl rfl ⟨hv, hl6, q⟩) (tst_or (fun Q q => ix_ok (ds := [.tuple ds, .none]) 0 rfl rfl ⟨hv, hl6, ?_⟩) (fun Q q => ?_)))) (fun z => nomatch z) fun _ => ?_
    · show Q (!decide ((Sg (sh (.tuple ds)) : Str) = x)) _
      rw [decide_eq_true ex]
      exact q
    · show Q (decide (x = z)) _
      rw [decide_eq_false hne]
      exact q
    · refine orV_of (a := dOp eqD (dV 3) (dCB lenD (dCons (dV 1) dNil))) (x := decide ((n : Int) = (z.length : Int))) (fun R r => ⟨sz, r⟩) (fun _ => k n1 (by (first | omega | (dsimp only; omega) | (dsimp only at *; omega)))) (fun h => ?_)
      have hn : n < (tl z).length := by
        have := of_decide_eq_false h
        omega
      obtain ⟨c, hc, hs⟩ := hstuck hn
      have e1 : ((n : Int) + 1) = ((n + 1 : Nat) : Int) := by omega
      have cl1 := cutS_length z none (some ((n : Int) + 1))
      obtain ⟨o3, ho3⟩ := out_of (tl (cutS z none (some ((n : Int) + 1)) ++ y))
      refine ⟨sz, small_big (by rw [hcl]; omega), by rw [len_app]; exact small_big (by rw [hcl]; omega), o3, ho3, ?_⟩
      have etl : tl (cutS z none (some ((n : Int) + 1)) ++ y) = (tl z).take n ++ (c :: cs) := by
        rw [TL.tl_append, tlc, e1, cut_tl, List.take_add_one, hc, List.append_assoc]
        rfl
      have ea : going .start 0 (tl (cutS z none (some ((n : Int) + 1)) ++ y)) = ((st, d), n) := by
        rw [etl, going_app _ _ _ _ (by rw [htk, hnl]), hst, hnl]
        dsimp only
        rw [going, hs]
        rfl
      have t3 : told (cutS z none (some ((n : Int) + 1)) ++ y) o3 = .tuple [.none, .int (n : Nat)] := by
        refine told_no ho3 (by rw [ea]) (.inr ?_)
        rw [etl, List.length_append, hnl, List.length_cons]
        omega
      rw [t3]
      exact ⟨sh_pair _, sh_pair _, fin n _ (by show n1 ≤ _; (first | omega | (dsimp only; omega) | (dsimp only at *; omega)))⟩
end

section
variable {P : Program} {w : World} {K : PySem.W.Frag} {mg : Str → Option Value} {base : Heap}
theorem ok_law (T : Tx K mg) {fa : Addr} {fda : FuncData} (F : Fun K "law" "law" s_law fa fda) : FnG P w K mg base 91 fa fda ["_law_script"] (spLaw K) := by
  obtain ⟨C, B⟩ := T.c_Scribe
  obtain ⟨CW, CB, fI, TX⟩ := T.x_NoWriting
  have O__law_spread := ok__law_spread (P := P) (w := w) (base := base) T
  have O__law_open := ok__law_open (P := P) (w := w) (base := base) T
  have O__law_take := ok_takeP (ok__law_take (P := P) (w := w) (base := base) T O__law_spread)
  have O__law_wnumber := ok__law_wnumber T O__law_take
  have O__law_wword := ok__law_wword T O__law_take
  have O__law_wpart := ok__law_wpart T O__law_take O__law_wword O__law_wnumber 3
  have O__law_wtree := ok__law_wtree T O__law_take O__law_wpart
  have O__law_wshow := ok__law_wshow (P := P) (w := w) (base := base) T 41
  have O__law_wsign := ok__law_wsign T O__law_take
  have O__law_wread := ok_wread (P := P) (w := w) (base := base) T B TX
  have O__law_wstep := ok__law_wstep (P := P) (w := w) (base := base) T
  have O__law_wend := ok__law_wend T O__law_wstep
  have O__law_wgood := ok__law_wgood T (ok__law_wleaf (P := P) (w := w) (base := base) T) 41
  have O__law_wgone := ok__law_wgone T O__law_take O__law_wsign O__law_wstep O__law_wend
  have O__law_wdrawn := ok__law_wdrawn T O__law_take O__law_wsign O__law_wgone O__law_wtree O__law_wshow
  have O__law_wclosed := ok__law_wclosed T O__law_wend
  have O__law_whole := ok__law_whole T O__law_take O__law_wsign O__law_wread O__law_wgood O__law_wshow O__law_wclosed
  refine Ok.ofLaw (M := []) F sc_law (by decide) fun f cdv A outer s H E hr => ⟨_, (pss_cons (ps_set (i := 1) sc_law.nd rfl (Or.inl rfl) (pe_fn O__law_open (hr.mono (by omega)) (by rfl) (pa_cons (pv 0) pa_nil)))
 (pss_cons (ps_for PassesOwn.never rfl (pi_range1 (by rfl) T.z_range (pa_cons (pe_int) (pa_nil))) (pg_nameL (i := 2) sc_law.nd rfl rfl)
 (pss_one (ps_if (pt_not (pt_val (pe_fn O__law_whole (hr.mono (by omega)) (by rfl) (pa_cons (pv 1) (pa_cons (pe_fn O__law_wdrawn (hr.mono (by omega)) (by rfl) (pa_cons (pv 1) (pa_nil))) (pa_nil))))))
 (pss_one (ps_ret (pe_bl)))
 (pss_nil))))
 (pss_one (ps_ret (pe_bl))))),
 fun p c => ⟨_, (simS_cut (simS_for (simI_range1 (sim_int _)) (simG_name 2 (nm rfl) (np rfl))
 (simS_if (simT_not (simT_B (sim_callP (by simp) rfl (simA_cons (sim_callP (by simp) rfl (simA_nil)) (simA_nil)))))
 (simS_ret (Sim.toE (sim_bl _)))
 (simS_next)))
 (simS_ret (Sim.toE (sim_bl _)))), ?_⟩⟩
  refine ⟨fun s => True, ?_, fun s _ => rfl⟩
  refine ⟨⟨by decide, by decide⟩, forD_ind (fun i s => ∃ (n : Nat) (a : Option D), s = { δ := [none, none, a], n := n } ∧ n ≤ i * 200000 ∧ i ≤ 8) ⟨0, none, rfl, by (first | omega | (dsimp only; omega) | (dsimp only at *; omega)), by (first | omega | (dsimp only; omega) | (dsimp only at *; omega))⟩ ?_ (fun _ _ => trivial)⟩
  rintro i d s N hd ⟨n, a, rfl, hn, _⟩ hN
  obtain ⟨hi, rfl⟩ := rgD_get hd
  have hi3 : i < 8 := by simpa using hi
  refine ⟨by show n + 200000 ≤ _; (first | omega | (dsimp only; omega) | (dsimp only at *; omega)), fun x n1 hx hn1 => ⟨by (first | omega | (dsimp only; omega) | (dsimp only at *; omega)), ?_, fun n2 hn2 => ?_⟩⟩
  · have hn1 : n1 ≤ n + 110000 := hn1
    (first | omega | (dsimp only; omega) | (dsimp only at *; omega))
  · have hn1 : n1 ≤ n + 110000 := hn1
    have hn2 : n2 ≤ n1 + 100 := hn2
    exact hN _ ⟨n2, _, rfl, by rw [Nat.succ_mul]; (first | omega | (dsimp only; omega) | (dsimp only at *; omega)), by (first | omega | (dsimp only; omega) | (dsimp only at *; omega))⟩
end
theorem law_end {l : PySem.W.OpenLaw} {w : World} {K : PySem.W.Frag} {mg : Str → Option Value} {fa : Addr} (T : Tx K mg) (hmg : mg "law" = some (.ref fa)) :
    ∃ fd : FuncData, (∀ (s : Shared) (v : Value), BindsTo s fd ⟨[v], []⟩ [("_law_script", v)]) ∧ ∀ base : Heap, K.In base → base.Ns mainGlobals mg → FnG l.prog w K mg base 91 fa fd ["_law_script"] (spLaw K) := by
  obtain ⟨f, fd, F, b, g⟩ := T.d_law
  rw [hmg] at g
  cases g
  have F' := F
  obtain ⟨oc, od, kV, doc, pm, an, cdv, ct, osl, rfl, lk, hcd⟩ := F.ex
  exact ⟨_, fun s v => .of_eq rfl, fun base _ _ => ok_law T F'⟩

theorem all_mk {w : World} {K : PySem.W.Frag} {h : Heap} {mg : Str → Option Value} {f1 f2 f3 f4 f5 f6 f7 f8 f9 f10 f11 f12 f13 f14 f15 f16 f17 f18 f19 f20 : Addr} {C0 : Addr} {fmC0_0 : Addr} {odmC0_0 anmC0_0 : Option Addr} {slmC0_0 : Array (Option Value)} {ocmC0_0 kVmC0_0 dcmC0_0 pmmC0_0 cdmC0_0 ctmC0_0 : Value} {fmC0_1 : Addr} {odmC0_1 anmC0_1 : Option Addr} {slmC0_1 : Array (Option Value)} {ocmC0_1 kVmC0_1 dcmC0_1 pmmC0_1 cdmC0_1 ctmC0_1 : Value} {fmC0_2 : Addr} {odmC0_2 anmC0_2 : Option Addr} {slmC0_2 : Array (Option Value)} {ocmC0_2 kVmC0_2 dcmC0_2 pmmC0_2 cdmC0_2 ctmC0_2 : Value} {fmC0_3 : Addr} {odmC0_3 anmC0_3 : Option Addr} {slmC0_3 : Array (Option Value)} {ocmC0_3 kVmC0_3 dcmC0_3 pmmC0_3 cdmC0_3 ctmC0_3 : Value} {fmC0_4 : Addr} {odmC0_4 anmC0_4 : Option Addr} {slmC0_4 : Array (Option Value)} {ocmC0_4 kVmC0_4 dcmC0_4 pmmC0_4 cdmC0_4 ctmC0_4 : Value} {fmC0_5 : Addr} {odmC0_5 anmC0_5 : Option Addr} {slmC0_5 : Array (Option Value)} {ocmC0_5 kVmC0_5 dcmC0_5 pmmC0_5 cdmC0_5 ctmC0_5 : Value} {fmC0_6 : Addr} {odmC0_6 anmC0_6 : Option Addr} {slmC0_6 : Array (Option Value)} {ocmC0_6 kVmC0_6 dcmC0_6 pmmC0_6 cdmC0_6 ctmC0_6 : Value} {E0W E0B E0I : Addr} {E0nm E0q : Str} {E0N : Addr} {E0bs : List Value} {E0sn : List Str} {E0sub : List Value} {E0ab : Bool} {E0col : Option Bool} {E0dd : Option Addr} {E0m0 E0m1 E0m2 E0m3 E0m5 : Option Value} {E0od E0an : Option Addr} {E0sl : Array (Option Value)} {E0oc E0kV E0dc E0pm E0cd E0ct : Value} {E0O0 : Addr} {E0O1 : Addr} {E0O2 : Addr} {E0O3 : Addr} {E0O4 : Addr} {E0O5 : Addr} {E0O6 : Addr} {E0O7 : Addr} {E0O8 : Addr} {E0O9 : Addr} {E0O10 : Addr} {tg0 : Tok} {tg1 : Tok} {tg2 : Tok} {tg3 : Tok} {tg4 : Tok} (X : K.In h) (G : h.Ns mainGlobals mg)
    {od1 an1 od2 an2 od3 an3 od4 an4 od5 an5 od6 an6 od7 an7 od8 an8 od9 an9 od10 an10 od11 an11 od12 an12 od13 an13 od14 an14 od15 an15 od16 an16 od17 an17 od18 an18 od19 an19 od20 an20 : Option Addr} {sl1 sl2 sl3 sl4 sl5 sl6 sl7 sl8 sl9 sl10 sl11 sl12 sl13 sl14 sl15 sl16 sl17 sl18 sl19 sl20 : Array (Option Value)} {oc1 kV1 dc1 pm1 cd1 ct1 oc2 kV2 dc2 pm2 cd2 ct2 oc3 kV3 dc3 pm3 cd3 ct3 oc4 kV4 dc4 pm4 cd4 ct4 oc5 kV5 dc5 pm5 cd5 ct5 oc6 kV6 dc6 pm6 cd6 ct6 oc7 kV7 dc7 pm7 cd7 ct7 oc8 kV8 dc8 pm8 cd8 ct8 oc9 kV9 dc9 pm9 cd9 ct9 oc10 kV10 dc10 pm10 cd10 ct10 oc11 kV11 dc11 pm11 cd11 ct11 oc12 kV12 dc12 pm12 cd12 ct12 oc13 kV13 dc13 pm13 cd13 ct13 oc14 kV14 dc14 pm14 cd14 ct14 oc15 kV15 dc15 pm15 cd15 ct15 oc16 kV16 dc16 pm16 cd16 ct16 oc17 kV17 dc17 pm17 cd17 ct17 oc18 kV18 dc18 pm18 cd18 ct18 oc19 kV19 dc19 pm19 cd19 ct19 oc20 kV20 dc20 pm20 cd20 ct20 : Value}
    (a1 : PySem.W.nsIn K mainGlobals "read" = some (some (.ref f1))) (l1 : K.lookup f1 = some ⟨oc1, od1, .func (PySem.W.fnOf "read" "read" (defArgs s_read) (defBody s_read) (defScope s_read) .none kV1 dc1 pm1 an1 cd1 ct1), sl1⟩) (c1 : PySem.W.codeIn K cd1 "read" = true) (k1 : PySem.W.keepIn K (.ref f1) = true)
    (a2 : PySem.W.nsIn K mainGlobals "_law_spread" = some (some (.ref f2))) (l2 : K.lookup f2 = some ⟨oc2, od2, .func (PySem.W.fnOf "_law_spread" "_law_spread" (defArgs s__law_spread) (defBody s__law_spread) (defScope s__law_spread) .none kV2 dc2 pm2 an2 cd2 ct2), sl2⟩) (c2 : PySem.W.codeIn K cd2 "_law_spread" = true) (k2 : PySem.W.keepIn K (.ref f2) = true)
    (a3 : PySem.W.nsIn K mainGlobals "_law_open" = some (some (.ref f3))) (l3 : K.lookup f3 = some ⟨oc3, od3, .func (PySem.W.fnOf "_law_open" "_law_open" (defArgs s__law_open) (defBody s__law_open) (defScope s__law_open) .none kV3 dc3 pm3 an3 cd3 ct3), sl3⟩) (c3 : PySem.W.codeIn K cd3 "_law_open" = true) (k3 : PySem.W.keepIn K (.ref f3) = true)
    (a4 : PySem.W.nsIn K mainGlobals "_law_take" = some (some (.ref f4))) (l4 : K.lookup f4 = some ⟨oc4, od4, .func (PySem.W.fnOf "_law_take" "_law_take" (defArgs s__law_take) (defBody s__law_take) (defScope s__law_take) .none kV4 dc4 pm4 an4 cd4 ct4), sl4⟩) (c4 : PySem.W.codeIn K cd4 "_law_take" = true) (k4 : PySem.W.keepIn K (.ref f4) = true)
    (a5 : PySem.W.nsIn K mainGlobals "_law_wnumber" = some (some (.ref f5))) (l5 : K.lookup f5 = some ⟨oc5, od5, .func (PySem.W.fnOf "_law_wnumber" "_law_wnumber" (defArgs s__law_wnumber) (defBody s__law_wnumber) (defScope s__law_wnumber) .none kV5 dc5 pm5 an5 cd5 ct5), sl5⟩) (c5 : PySem.W.codeIn K cd5 "_law_wnumber" = true) (k5 : PySem.W.keepIn K (.ref f5) = true)
    (a6 : PySem.W.nsIn K mainGlobals "_law_wshow" = some (some (.ref f6))) (l6 : K.lookup f6 = some ⟨oc6, od6, .func (PySem.W.fnOf "_law_wshow" "_law_wshow" (defArgs s__law_wshow) (defBody s__law_wshow) (defScope s__law_wshow) .none kV6 dc6 pm6 an6 cd6 ct6), sl6⟩) (c6 : PySem.W.codeIn K cd6 "_law_wshow" = true) (k6 : PySem.W.keepIn K (.ref f6) = true)
    (a7 : PySem.W.nsIn K mainGlobals "_law_wword" = some (some (.ref f7))) (l7 : K.lookup f7 = some ⟨oc7, od7, .func (PySem.W.fnOf "_law_wword" "_law_wword" (defArgs s__law_wword) (defBody s__law_wword) (defScope s__law_wword) .none kV7 dc7 pm7 an7 cd7 ct7), sl7⟩) (c7 : PySem.W.codeIn K cd7 "_law_wword" = true) (k7 : PySem.W.keepIn K (.ref f7) = true)
    (a8 : PySem.W.nsIn K mainGlobals "_law_wpart" = some (some (.ref f8))) (l8 : K.lookup f8 = some ⟨oc8, od8, .func (PySem.W.fnOf "_law_wpart" "_law_wpart" (defArgs s__law_wpart) (defBody s__law_wpart) (defScope s__law_wpart) .none kV8 dc8 pm8 an8 cd8 ct8), sl8⟩) (c8 : PySem.W.codeIn K cd8 "_law_wpart" = true) (k8 : PySem.W.keepIn K (.ref f8) = true)
    (a9 : PySem.W.nsIn K mainGlobals "_law_wtree" = some (some (.ref f9))) (l9 : K.lookup f9 = some ⟨oc9, od9, .func (PySem.W.fnOf "_law_wtree" "_law_wtree" (defArgs s__law_wtree) (defBody s__law_wtree) (defScope s__law_wtree) .none kV9 dc9 pm9 an9 cd9 ct9), sl9⟩) (c9 : PySem.W.codeIn K cd9 "_law_wtree" = true) (k9 : PySem.W.keepIn K (.ref f9) = true)
    (a10 : PySem.W.nsIn K mainGlobals "_law_wstep" = some (some (.ref f10))) (l10 : K.lookup f10 = some ⟨oc10, od10, .func (PySem.W.fnOf "_law_wstep" "_law_wstep" (defArgs s__law_wstep) (defBody s__law_wstep) (defScope s__law_wstep) .none kV10 dc10 pm10 an10 cd10 ct10), sl10⟩) (c10 : PySem.W.codeIn K cd10 "_law_wstep" = true) (k10 : PySem.W.keepIn K (.ref f10) = true)
    (a11 : PySem.W.nsIn K mainGlobals "_law_wend" = some (some (.ref f11))) (l11 : K.lookup f11 = some ⟨oc11, od11, .func (PySem.W.fnOf "_law_wend" "_law_wend" (defArgs s__law_wend) (defBody s__law_wend) (defScope s__law_wend) .none kV11 dc11 pm11 an11 cd11 ct11), sl11⟩) (c11 : PySem.W.codeIn K cd11 "_law_wend" = true) (k11 : PySem.W.keepIn K (.ref f11) = true)
    (a12 : PySem.W.nsIn K mainGlobals "_law_wread" = some (some (.ref f12))) (l12 : K.lookup f12 = some ⟨oc12, od12, .func (PySem.W.fnOf "_law_wread" "_law_wread" (defArgs s__law_wread) (defBody s__law_wread) (defScope s__law_wread) .none kV12 dc12 pm12 an12 cd12 ct12), sl12⟩) (c12 : PySem.W.codeIn K cd12 "_law_wread" = true) (k12 : PySem.W.keepIn K (.ref f12) = true)
    (a13 : PySem.W.nsIn K mainGlobals "_law_wleaf" = some (some (.ref f13))) (l13 : K.lookup f13 = some ⟨oc13, od13, .func (PySem.W.fnOf "_law_wleaf" "_law_wleaf" (defArgs s__law_wleaf) (defBody s__law_wleaf) (defScope s__law_wleaf) .none kV13 dc13 pm13 an13 cd13 ct13), sl13⟩) (c13 : PySem.W.codeIn K cd13 "_law_wleaf" = true) (k13 : PySem.W.keepIn K (.ref f13) = true)
    (a14 : PySem.W.nsIn K mainGlobals "_law_wgood" = some (some (.ref f14))) (l14 : K.lookup f14 = some ⟨oc14, od14, .func (PySem.W.fnOf "_law_wgood" "_law_wgood" (defArgs s__law_wgood) (defBody s__law_wgood) (defScope s__law_wgood) .none kV14 dc14 pm14 an14 cd14 ct14), sl14⟩) (c14 : PySem.W.codeIn K cd14 "_law_wgood" = true) (k14 : PySem.W.keepIn K (.ref f14) = true)
    (a15 : PySem.W.nsIn K mainGlobals "_law_wsign" = some (some (.ref f15))) (l15 : K.lookup f15 = some ⟨oc15, od15, .func (PySem.W.fnOf "_law_wsign" "_law_wsign" (defArgs s__law_wsign) (defBody s__law_wsign) (defScope s__law_wsign) .none kV15 dc15 pm15 an15 cd15 ct15), sl15⟩) (c15 : PySem.W.codeIn K cd15 "_law_wsign" = true) (k15 : PySem.W.keepIn K (.ref f15) = true)
    (a16 : PySem.W.nsIn K mainGlobals "_law_wgone" = some (some (.ref f16))) (l16 : K.lookup f16 = some ⟨oc16, od16, .func (PySem.W.fnOf "_law_wgone" "_law_wgone" (defArgs s__law_wgone) (defBody s__law_wgone) (defScope s__law_wgone) .none kV16 dc16 pm16 an16 cd16 ct16), sl16⟩) (c16 : PySem.W.codeIn K cd16 "_law_wgone" = true) (k16 : PySem.W.keepIn K (.ref f16) = true)
    (a17 : PySem.W.nsIn K mainGlobals "_law_wdrawn" = some (some (.ref f17))) (l17 : K.lookup f17 = some ⟨oc17, od17, .func (PySem.W.fnOf "_law_wdrawn" "_law_wdrawn" (defArgs s__law_wdrawn) (defBody s__law_wdrawn) (defScope s__law_wdrawn) .none kV17 dc17 pm17 an17 cd17 ct17), sl17⟩) (c17 : PySem.W.codeIn K cd17 "_law_wdrawn" = true) (k17 : PySem.W.keepIn K (.ref f17) = true)
    (a18 : PySem.W.nsIn K mainGlobals "_law_wclosed" = some (some (.ref f18))) (l18 : K.lookup f18 = some ⟨oc18, od18, .func (PySem.W.fnOf "_law_wclosed" "_law_wclosed" (defArgs s__law_wclosed) (defBody s__law_wclosed) (defScope s__law_wclosed) .none kV18 dc18 pm18 an18 cd18 ct18), sl18⟩) (c18 : PySem.W.codeIn K cd18 "_law_wclosed" = true) (k18 : PySem.W.keepIn K (.ref f18) = true)
    (a19 : PySem.W.nsIn K mainGlobals "_law_whole" = some (some (.ref f19))) (l19 : K.lookup f19 = some ⟨oc19, od19, .func (PySem.W.fnOf "_law_whole" "_law_whole" (defArgs s__law_whole) (defBody s__law_whole) (defScope s__law_whole) .none kV19 dc19 pm19 an19 cd19 ct19), sl19⟩) (c19 : PySem.W.codeIn K cd19 "_law_whole" = true) (k19 : PySem.W.keepIn K (.ref f19) = true)
    (a20 : PySem.W.nsIn K mainGlobals "law" = some (some (.ref f20))) (l20 : K.lookup f20 = some ⟨oc20, od20, .func (PySem.W.fnOf "law" "law" (defArgs s_law) (defBody s_law) (defScope s_law) .none kV20 dc20 pm20 an20 cd20 ct20), sl20⟩) (c20 : PySem.W.codeIn K cd20 "law" = true) (k20 : PySem.W.keepIn K (.ref f20) = true)
    (z1 : PySem.W.nsIn K mainGlobals "ValueError" = some none)
    (z2 : PySem.W.nsIn K mainGlobals "all" = some none)
    (z3 : PySem.W.nsIn K mainGlobals "bool" = some none)
    (z4 : PySem.W.nsIn K mainGlobals "enumerate" = some none)
    (z5 : PySem.W.nsIn K mainGlobals "int" = some none)
    (z6 : PySem.W.nsIn K mainGlobals "isinstance" = some none)
    (z7 : PySem.W.nsIn K mainGlobals "len" = some none)
    (z8 : PySem.W.nsIn K mainGlobals "list" = some none)
    (z9 : PySem.W.nsIn K mainGlobals "min" = some none)
    (z10 : PySem.W.nsIn K mainGlobals "range" = some none)
    (z11 : PySem.W.nsIn K mainGlobals "str" = some none)
    (z12 : PySem.W.nsIn K mainGlobals "tuple" = some none)
    (C0aC : PySem.W.nsIn K mainGlobals "Scribe" = some (some (.ref C0)))
    (C0pg : PySem.W.plainGet K C0 Str.empty = true)
    (C0hd : PySem.W.hasDictIn K C0 = true)
    (C0po : PySem.W.plainOver K C0 = true)
    (C0sa : PySem.W.findIn K (.ref C0) "__setattr__" = some (some (.builtin "object.__setattr__")))
    (C0mk : PySem.W.makesIn K C0 = true)
    (C0kc : PySem.W.keepIn K (.ref C0) = true)
    (C0n_signs : PySem.W.findIn K (.ref C0) "signs" = some none)
    (C0n_spot : PySem.W.findIn K (.ref C0) "spot" = some none)
    (C0n_depth : PySem.W.findIn K (.ref C0) "depth" = some none)
    (C0a0 : PySem.W.findIn K (.ref C0) "__init__" = some (some (.ref fmC0_0)))
    (C0i0 : PySem.W.isFn K (.ref fmC0_0) = true)
    (C0l0 : K.lookup fmC0_0 = some ⟨ocmC0_0, odmC0_0, .func (PySem.W.fnOf "__init__" "Scribe.__init__" (defArgs s_Scribe___init__) (defBody s_Scribe___init__) (defScope s_Scribe___init__) .none kVmC0_0 dcmC0_0 pmmC0_0 anmC0_0 cdmC0_0 ctmC0_0), slmC0_0⟩)
    (C0c0 : PySem.W.codeIn K cdmC0_0 "Scribe.__init__" = true)
    (C0k0 : PySem.W.keepIn K (.ref fmC0_0) = true)
    (C0a1 : PySem.W.findIn K (.ref C0) "sign_ahead" = some (some (.ref fmC0_1)))
    (C0i1 : PySem.W.isFn K (.ref fmC0_1) = true)
    (C0l1 : K.lookup fmC0_1 = some ⟨ocmC0_1, odmC0_1, .func (PySem.W.fnOf "sign_ahead" "Scribe.sign_ahead" (defArgs s_Scribe_sign_ahead) (defBody s_Scribe_sign_ahead) (defScope s_Scribe_sign_ahead) .none kVmC0_1 dcmC0_1 pmmC0_1 anmC0_1 cdmC0_1 ctmC0_1), slmC0_1⟩)
    (C0c1 : PySem.W.codeIn K cdmC0_1 "Scribe.sign_ahead" = true)
    (C0k1 : PySem.W.keepIn K (.ref fmC0_1) = true)
    (C0a2 : PySem.W.findIn K (.ref C0) "need_sign" = some (some (.ref fmC0_2)))
    (C0i2 : PySem.W.isFn K (.ref fmC0_2) = true)
    (C0l2 : K.lookup fmC0_2 = some ⟨ocmC0_2, odmC0_2, .func (PySem.W.fnOf "need_sign" "Scribe.need_sign" (defArgs s_Scribe_need_sign) (defBody s_Scribe_need_sign) (defScope s_Scribe_need_sign) .none kVmC0_2 dcmC0_2 pmmC0_2 anmC0_2 cdmC0_2 ctmC0_2), slmC0_2⟩)
    (C0c2 : PySem.W.codeIn K cdmC0_2 "Scribe.need_sign" = true)
    (C0k2 : PySem.W.keepIn K (.ref fmC0_2) = true)
    (C0a3 : PySem.W.findIn K (.ref C0) "run_of" = some (some (.ref fmC0_3)))
    (C0i3 : PySem.W.isFn K (.ref fmC0_3) = true)
    (C0l3 : K.lookup fmC0_3 = some ⟨ocmC0_3, odmC0_3, .func (PySem.W.fnOf "run_of" "Scribe.run_of" (defArgs s_Scribe_run_of) (defBody s_Scribe_run_of) (defScope s_Scribe_run_of) .none kVmC0_3 dcmC0_3 pmmC0_3 anmC0_3 cdmC0_3 ctmC0_3), slmC0_3⟩)
    (C0c3 : PySem.W.codeIn K cdmC0_3 "Scribe.run_of" = true)
    (C0k3 : PySem.W.keepIn K (.ref fmC0_3) = true)
    (C0a4 : PySem.W.findIn K (.ref C0) "whole_number" = some (some (.ref fmC0_4)))
    (C0i4 : PySem.W.isFn K (.ref fmC0_4) = true)
    (C0l4 : K.lookup fmC0_4 = some ⟨ocmC0_4, odmC0_4, .func (PySem.W.fnOf "whole_number" "Scribe.whole_number" (defArgs s_Scribe_whole_number) (defBody s_Scribe_whole_number) (defScope s_Scribe_whole_number) .none kVmC0_4 dcmC0_4 pmmC0_4 anmC0_4 cdmC0_4 ctmC0_4), slmC0_4⟩)
    (C0c4 : PySem.W.codeIn K cdmC0_4 "Scribe.whole_number" = true)
    (C0k4 : PySem.W.keepIn K (.ref fmC0_4) = true)
    (C0a5 : PySem.W.findIn K (.ref C0) "any_part" = some (some (.ref fmC0_5)))
    (C0i5 : PySem.W.isFn K (.ref fmC0_5) = true)
    (C0l5 : K.lookup fmC0_5 = some ⟨ocmC0_5, odmC0_5, .func (PySem.W.fnOf "any_part" "Scribe.any_part" (defArgs s_Scribe_any_part) (defBody s_Scribe_any_part) (defScope s_Scribe_any_part) .none kVmC0_5 dcmC0_5 pmmC0_5 anmC0_5 cdmC0_5 ctmC0_5), slmC0_5⟩)
    (C0c5 : PySem.W.codeIn K cdmC0_5 "Scribe.any_part" = true)
    (C0k5 : PySem.W.keepIn K (.ref fmC0_5) = true)
    (C0a6 : PySem.W.findIn K (.ref C0) "brackets" = some (some (.ref fmC0_6)))
    (C0i6 : PySem.W.isFn K (.ref fmC0_6) = true)
    (C0l6 : K.lookup fmC0_6 = some ⟨ocmC0_6, odmC0_6, .func (PySem.W.fnOf "brackets" "Scribe.brackets" (defArgs s_Scribe_brackets) (defBody s_Scribe_brackets) (defScope s_Scribe_brackets) .none kVmC0_6 dcmC0_6 pmmC0_6 anmC0_6 cdmC0_6 ctmC0_6), slmC0_6⟩)
    (C0c6 : PySem.W.codeIn K cdmC0_6 "Scribe.brackets" = true)
    (C0k6 : PySem.W.keepIn K (.ref fmC0_6) = true)
    (E0aW : PySem.W.nsIn K mainGlobals "NoWriting" = some (some (.ref E0W)))
    (E0aB : PySem.W.nsIn K mainGlobals "WorkError" = some (some (.ref E0B)))
    (E0xL : K.lookup E0W = some (excClassObj E0nm E0q E0W E0N E0bs [.ref E0B, .type "ValueError", .type "Exception", .type "BaseException", .type "object"] true E0sn E0sub E0ab E0col E0dd E0m0 E0m1 E0m2 E0m3 E0m5 "ValueError.__new__"))
    (E0sa : PySem.W.findIn K (.ref E0W) "__setattr__" = some (some (.builtin "object.__setattr__")))
    (E0eC : PySem.W.subIn K (.ref E0W) (.type "BaseException") = some true)
    (E0tC : PySem.W.typeIn K (.ref E0W) = some (.type "type"))
    (E0kC : PySem.W.keepIn K (.ref E0W) = true)
    (E0nf : PySem.W.findIn K (.ref E0W) "place" = some none)
    (E0iC : PySem.W.findIn K (.ref E0W) "__init__" = some (some (.ref E0I)))
    (E0tI : PySem.W.typeIn K (.ref E0I) = some (.type "function"))
    (E0tB : PySem.W.typeIn K (.ref E0B) = some (.type "type"))
    (E0tp : PySem.W.nsIn K cStatics "thirdparty.any" = some none)
    (E0fb : PySem.W.findCls K (.ref E0B) (.type "type") "__init__" = some (.val (.builtin "ValueError.__init__")))
    (E0kB : PySem.W.keepIn K (.ref E0B) = true)
    (E0lI : K.lookup E0I = some ⟨E0oc, E0od, .func (PySem.W.fnOf "__init__" "NoWriting.__init__" (defArgs s_NoWriting___init__) (defBody s_NoWriting___init__) (defScope s_NoWriting___init__) .none E0kV E0dc E0pm E0an E0cd E0ct), E0sl⟩)
    (E0cI : PySem.W.codeIn K E0cd "NoWriting.__init__" = true)
    (E0kI : PySem.W.keepIn K (.ref E0I) = true)
    (E0hg : PySem.W.findIn K (.ref E0W) "__getattribute__" = some (some (.builtin "BaseException.__getattribute__")))
    (E0hk : PySem.W.findIn K (.ref E0W) "__getattr__" = some none)
    (E0hd : PySem.W.hasDictIn K E0W = true)
    (E0ha : PySem.W.findIn K (.ref E0W) "__class__" = some (some (.builtin "object.__class__")))
    (E0hn : PySem.W.specialIn K (.builtin "object.__class__") "__get__" = some (some (.builtin "getset_descriptor.__get__")))
    (E0ht : PySem.W.takesIn K (.builtin "object.__class__") = some true)
    (E0hm : PySem.W.mroIn K E0W (.type "object") = some true)
    (E0eB : PySem.W.subIn K (.ref E0B) (.type "BaseException") = some true)
    (E0iB : PySem.W.isClsIn K E0B = true)
    (E0sB : PySem.W.subIn K (.ref E0W) (.ref E0B) = some true)
    (E0sW : PySem.W.subIn K (.ref E0W) (.ref E0W) = some true)
    (E0sV : PySem.W.subIn K (.ref E0W) (.type "ValueError") = some true)
    (E0aO0 : PySem.W.nsIn K mainGlobals "NoText" = some (some (.ref E0O0)))
    (E0iO0 : PySem.W.isClsIn K E0O0 = true)
    (E0tO0 : PySem.W.typeIn K (.ref E0O0) = some (.type "type"))
    (E0sO0 : PySem.W.subIn K (.ref E0W) (.ref E0O0) = some false)
    (E0aO1 : PySem.W.nsIn K mainGlobals "NoName" = some (some (.ref E0O1)))
    (E0iO1 : PySem.W.isClsIn K E0O1 = true)
    (E0tO1 : PySem.W.typeIn K (.ref E0O1) = some (.type "type"))
    (E0sO1 : PySem.W.subIn K (.ref E0W) (.ref E0O1) = some false)
    (E0aO2 : PySem.W.nsIn K mainGlobals "Standing" = some (some (.ref E0O2)))
    (E0iO2 : PySem.W.isClsIn K E0O2 = true)
    (E0tO2 : PySem.W.typeIn K (.ref E0O2) = some (.type "type"))
    (E0sO2 : PySem.W.subIn K (.ref E0W) (.ref E0O2) = some false)
    (E0aO3 : PySem.W.nsIn K mainGlobals "Full" = some (some (.ref E0O3)))
    (E0iO3 : PySem.W.isClsIn K E0O3 = true)
    (E0tO3 : PySem.W.typeIn K (.ref E0O3) = some (.type "type"))
    (E0sO3 : PySem.W.subIn K (.ref E0W) (.ref E0O3) = some false)
    (E0aO4 : PySem.W.nsIn K mainGlobals "NoMark" = some (some (.ref E0O4)))
    (E0iO4 : PySem.W.isClsIn K E0O4 = true)
    (E0tO4 : PySem.W.typeIn K (.ref E0O4) = some (.type "type"))
    (E0sO4 : PySem.W.subIn K (.ref E0W) (.ref E0O4) = some false)
    (E0aO5 : PySem.W.nsIn K mainGlobals "BadLine" = some (some (.ref E0O5)))
    (E0iO5 : PySem.W.isClsIn K E0O5 = true)
    (E0tO5 : PySem.W.typeIn K (.ref E0O5) = some (.type "type"))
    (E0sO5 : PySem.W.subIn K (.ref E0W) (.ref E0O5) = some false)
    (E0aO6 : PySem.W.nsIn K mainGlobals "NoInputs" = some (some (.ref E0O6)))
    (E0iO6 : PySem.W.isClsIn K E0O6 = true)
    (E0tO6 : PySem.W.typeIn K (.ref E0O6) = some (.type "type"))
    (E0sO6 : PySem.W.subIn K (.ref E0W) (.ref E0O6) = some false)
    (E0aO7 : PySem.W.nsIn K mainGlobals "NoTicks" = some (some (.ref E0O7)))
    (E0iO7 : PySem.W.isClsIn K E0O7 = true)
    (E0tO7 : PySem.W.typeIn K (.ref E0O7) = some (.type "type"))
    (E0sO7 : PySem.W.subIn K (.ref E0W) (.ref E0O7) = some false)
    (E0aO8 : PySem.W.nsIn K mainGlobals "NoWorths" = some (some (.ref E0O8)))
    (E0iO8 : PySem.W.isClsIn K E0O8 = true)
    (E0tO8 : PySem.W.typeIn K (.ref E0O8) = some (.type "type"))
    (E0sO8 : PySem.W.subIn K (.ref E0W) (.ref E0O8) = some false)
    (E0aO9 : PySem.W.nsIn K mainGlobals "NoGoal" = some (some (.ref E0O9)))
    (E0iO9 : PySem.W.isClsIn K E0O9 = true)
    (E0tO9 : PySem.W.typeIn K (.ref E0O9) = some (.type "type"))
    (E0sO9 : PySem.W.subIn K (.ref E0W) (.ref E0O9) = some false)
    (E0aO10 : PySem.W.nsIn K mainGlobals "NoPaper" = some (some (.ref E0O10)))
    (E0iO10 : PySem.W.isClsIn K E0O10 = true)
    (E0tO10 : PySem.W.typeIn K (.ref E0O10) = some (.type "type"))
    (E0sO10 : PySem.W.subIn K (.ref E0W) (.ref E0O10) = some false)
    (kglb0 : PySem.W.nsIn K mainGlobals "MOST_LETTERS" = some (some (.int 8 tg0)))
    (kglb1 : PySem.W.nsIn K mainGlobals "MOST_FIGURES" = some (some (.int 30 tg1)))
    (kglb2 : PySem.W.nsIn K mainGlobals "MOST_BRACKETS" = some (some (.int 40 tg2)))
    (kglb3 : PySem.W.nsIn K mainGlobals "SMALL" = some (some (.str "abcdefghijklmnopqrstuvwxyz" tg3)))
    (kglb4 : PySem.W.nsIn K mainGlobals "FIGURES" = some (some (.str "0123456789" tg4)))
    : Tx K mg := by
  exact ⟨
    ⟨f1, _, fun_mk (st := s_read) l1 c1 k1, (fun_mk (st := s_read) l1 c1 k1).binds (ps := ["writing"]) (fun _ _ _ _ _ _ us hl => match us, hl with | [_], _ => rfl), PySem.W.mg_of X G a1⟩,
    ⟨f2, _, fun_mk (st := s__law_spread) l2 c2 k2, (fun_mk (st := s__law_spread) l2 c2 k2).binds (ps := ["_law_cell", "_law_at"]) (fun _ _ _ _ _ _ us hl => match us, hl with | [_, _], _ => rfl), PySem.W.mg_of X G a2⟩,
    ⟨f3, _, fun_mk (st := s__law_open) l3 c3 k3, (fun_mk (st := s__law_open) l3 c3 k3).binds (ps := ["_law_script"]) (fun _ _ _ _ _ _ us hl => match us, hl with | [_], _ => rfl), PySem.W.mg_of X G a3⟩,
    ⟨f4, _, fun_mk (st := s__law_take) l4 c4 k4, (fun_mk (st := s__law_take) l4 c4 k4).binds (ps := ["_law_pen", "_law_many"]) (fun _ _ _ _ _ _ us hl => match us, hl with | [_, _], _ => rfl), PySem.W.mg_of X G a4⟩,
    ⟨f5, _, fun_mk (st := s__law_wnumber) l5 c5 k5, (fun_mk (st := s__law_wnumber) l5 c5 k5).binds (ps := ["_law_pen"]) (fun _ _ _ _ _ _ us hl => match us, hl with | [_], _ => rfl), PySem.W.mg_of X G a5⟩,
    ⟨f6, _, fun_mk (st := s__law_wshow) l6 c6 k6, (fun_mk (st := s__law_wshow) l6 c6 k6).binds (ps := ["_law_thing"]) (fun _ _ _ _ _ _ us hl => match us, hl with | [_], _ => rfl), PySem.W.mg_of X G a6⟩,
    ⟨f7, _, fun_mk (st := s__law_wword) l7 c7 k7, (fun_mk (st := s__law_wword) l7 c7 k7).binds (ps := ["_law_pen"]) (fun _ _ _ _ _ _ us hl => match us, hl with | [_], _ => rfl), PySem.W.mg_of X G a7⟩,
    ⟨f8, _, fun_mk (st := s__law_wpart) l8 c8 k8, (fun_mk (st := s__law_wpart) l8 c8 k8).binds (ps := ["_law_pen", "_law_deep"]) (fun _ _ _ _ _ _ us hl => match us, hl with | [_, _], _ => rfl), PySem.W.mg_of X G a8⟩,
    ⟨f9, _, fun_mk (st := s__law_wtree) l9 c9 k9, (fun_mk (st := s__law_wtree) l9 c9 k9).binds (ps := ["_law_pen", "_law_deep"]) (fun _ _ _ _ _ _ us hl => match us, hl with | [_, _], _ => rfl), PySem.W.mg_of X G a9⟩,
    ⟨f10, _, fun_mk (st := s__law_wstep) l10 c10 k10, (fun_mk (st := s__law_wstep) l10 c10 k10).binds (ps := ["_law_state", "_law_many", "_law_depth", "_law_sign"]) (fun _ _ _ _ _ _ us hl => match us, hl with | [_, _, _, _], _ => rfl), PySem.W.mg_of X G a10⟩,
    ⟨f11, _, fun_mk (st := s__law_wend) l11 c11 k11, (fun_mk (st := s__law_wend) l11 c11 k11).binds (ps := ["_law_signs"]) (fun _ _ _ _ _ _ us hl => match us, hl with | [_], _ => rfl), PySem.W.mg_of X G a11⟩,
    ⟨f12, _, fun_mk (st := s__law_wread) l12 c12 k12, (fun_mk (st := s__law_wread) l12 c12 k12).binds (ps := ["_law_signs"]) (fun _ _ _ _ _ _ us hl => match us, hl with | [_], _ => rfl), PySem.W.mg_of X G a12⟩,
    ⟨f13, _, fun_mk (st := s__law_wleaf) l13 c13 k13, (fun_mk (st := s__law_wleaf) l13 c13 k13).binds (ps := ["_law_thing"]) (fun _ _ _ _ _ _ us hl => match us, hl with | [_], _ => rfl), PySem.W.mg_of X G a13⟩,
    ⟨f14, _, fun_mk (st := s__law_wgood) l14 c14 k14, (fun_mk (st := s__law_wgood) l14 c14 k14).binds (ps := ["_law_thing"]) (fun _ _ _ _ _ _ us hl => match us, hl with | [_], _ => rfl), PySem.W.mg_of X G a14⟩,
    ⟨f15, _, fun_mk (st := s__law_wsign) l15 c15 k15, (fun_mk (st := s__law_wsign) l15 c15 k15).binds (ps := ["_law_pen"]) (fun _ _ _ _ _ _ us hl => match us, hl with | [_], _ => rfl), PySem.W.mg_of X G a15⟩,
    ⟨f16, _, fun_mk (st := s__law_wgone) l16 c16 k16, (fun_mk (st := s__law_wgone) l16 c16 k16).binds (ps := ["_law_pen", "_law_signs", "_law_size"]) (fun _ _ _ _ _ _ us hl => match us, hl with | [_, _, _], _ => rfl), PySem.W.mg_of X G a16⟩,
    ⟨f17, _, fun_mk (st := s__law_wdrawn) l17 c17 k17, (fun_mk (st := s__law_wdrawn) l17 c17 k17).binds (ps := ["_law_pen"]) (fun _ _ _ _ _ _ us hl => match us, hl with | [_], _ => rfl), PySem.W.mg_of X G a17⟩,
    ⟨f18, _, fun_mk (st := s__law_wclosed) l18 c18 k18, (fun_mk (st := s__law_wclosed) l18 c18 k18).binds (ps := ["_law_signs"]) (fun _ _ _ _ _ _ us hl => match us, hl with | [_], _ => rfl), PySem.W.mg_of X G a18⟩,
    ⟨f19, _, fun_mk (st := s__law_whole) l19 c19 k19, (fun_mk (st := s__law_whole) l19 c19 k19).binds (ps := ["_law_pen", "_law_signs"]) (fun _ _ _ _ _ _ us hl => match us, hl with | [_, _], _ => rfl), PySem.W.mg_of X G a19⟩,
    ⟨f20, _, fun_mk (st := s_law) l20 c20 k20, (fun_mk (st := s_law) l20 c20 k20).binds (ps := ["_law_script"]) (fun _ _ _ _ _ _ us hl => match us, hl with | [_], _ => rfl), PySem.W.mg_of X G a20⟩,
    PySem.W.mg_none_of X G z1,
    PySem.W.mg_none_of X G z2,
    PySem.W.mg_none_of X G z3,
    PySem.W.mg_none_of X G z4,
    PySem.W.mg_none_of X G z5,
    PySem.W.mg_none_of X G z6,
    PySem.W.mg_none_of X G z7,
    PySem.W.mg_none_of X G z8,
    PySem.W.mg_none_of X G z9,
    PySem.W.mg_none_of X G z10,
    PySem.W.mg_none_of X G z11,
    PySem.W.mg_none_of X G z12,
    ⟨C0, ⟨⟨⟨C0pg, C0hd, C0po, C0sa⟩, PySem.W.mg_of X G C0aC, C0mk, C0kc, ⟨fmC0_0, _, fun_mk (st := s_Scribe___init__) C0l0 C0c0 C0k0, (fun_mk (st := s_Scribe___init__) C0l0 C0c0 C0k0).binds (ps := ["self", "signs"]) (fun _ _ _ _ _ _ us hl => match us, hl with | [_, _], _ => rfl), ⟨C0a0, C0i0, C0k0⟩⟩⟩, C0n_signs, C0n_spot, C0n_depth, ⟨fmC0_1, _, fun_mk (st := s_Scribe_sign_ahead) C0l1 C0c1 C0k1, (fun_mk (st := s_Scribe_sign_ahead) C0l1 C0c1 C0k1).binds (ps := ["self"]) (fun _ _ _ _ _ _ us hl => match us, hl with | [_], _ => rfl), ⟨C0a1, C0i1, C0k1⟩⟩, ⟨fmC0_2, _, fun_mk (st := s_Scribe_need_sign) C0l2 C0c2 C0k2, (fun_mk (st := s_Scribe_need_sign) C0l2 C0c2 C0k2).binds (ps := ["self", "some"]) (fun _ _ _ _ _ _ us hl => match us, hl with | [_, _], _ => rfl), ⟨C0a2, C0i2, C0k2⟩⟩, ⟨fmC0_3, _, fun_mk (st := s_Scribe_run_of) C0l3 C0c3 C0k3, (fun_mk (st := s_Scribe_run_of) C0l3 C0c3 C0k3).binds (ps := ["self", "some", "most"]) (fun _ _ _ _ _ _ us hl => match us, hl with | [_, _, _], _ => rfl), ⟨C0a3, C0i3, C0k3⟩⟩, ⟨fmC0_4, _, fun_mk (st := s_Scribe_whole_number) C0l4 C0c4 C0k4, (fun_mk (st := s_Scribe_whole_number) C0l4 C0c4 C0k4).binds (ps := ["self"]) (fun _ _ _ _ _ _ us hl => match us, hl with | [_], _ => rfl), ⟨C0a4, C0i4, C0k4⟩⟩, ⟨fmC0_5, _, fun_mk (st := s_Scribe_any_part) C0l5 C0c5 C0k5, (fun_mk (st := s_Scribe_any_part) C0l5 C0c5 C0k5).binds (ps := ["self"]) (fun _ _ _ _ _ _ us hl => match us, hl with | [_], _ => rfl), ⟨C0a5, C0i5, C0k5⟩⟩, ⟨fmC0_6, _, fun_mk (st := s_Scribe_brackets) C0l6 C0c6 C0k6, (fun_mk (st := s_Scribe_brackets) C0l6 C0c6 C0k6).binds (ps := ["self"]) (fun _ _ _ _ _ _ us hl => match us, hl with | [_], _ => rfl), ⟨C0a6, C0i6, C0k6⟩⟩⟩⟩,
    ⟨E0W, E0B, E0I, ⟨PySem.W.mg_of X G E0aW, PySem.W.mg_of X G E0aB, ⟨⟨_, _, _, _, _, _, _, _, _, _, _, _, _, _, _, E0xL, (show PySem.HandSPX.refsVE [.type "ValueError", .type "Exception", .type "BaseException", .type "object"] = true by decide +kernel)⟩, E0sa, E0eC, E0tC, E0kC⟩, E0nf, E0iC, E0tI, E0tB, E0tp, E0fb, E0kB⟩, ⟨_, fun_mk (st := s_NoWriting___init__) E0lI E0cI E0kI, (fun_mk (st := s_NoWriting___init__) E0lI E0cI E0kI).binds (ps := ["self", "place"]) (fun _ _ _ _ _ _ us hl => match us, hl with | [_, _], _ => rfl)⟩, ⟨E0hg, E0hk, E0eC, E0hd, E0ha, E0hn, E0ht, E0hm⟩, exm_up E0eB E0iB E0tB E0sB, (by unfold PySem.W.kitOne; rw [if_pos (beq_self_eq_true _)]), kit_ve E0sV, ⟨E0O0, PySem.W.mg_of X G E0aO0, kit_no E0sW E0iO0 E0tO0 E0sO0⟩, ⟨E0O1, PySem.W.mg_of X G E0aO1, kit_no E0sW E0iO1 E0tO1 E0sO1⟩, ⟨E0O2, PySem.W.mg_of X G E0aO2, kit_no E0sW E0iO2 E0tO2 E0sO2⟩, ⟨E0O3, PySem.W.mg_of X G E0aO3, kit_no E0sW E0iO3 E0tO3 E0sO3⟩, ⟨E0O4, PySem.W.mg_of X G E0aO4, kit_no E0sW E0iO4 E0tO4 E0sO4⟩, ⟨E0O5, PySem.W.mg_of X G E0aO5, kit_no E0sW E0iO5 E0tO5 E0sO5⟩, ⟨E0O6, PySem.W.mg_of X G E0aO6, kit_no E0sW E0iO6 E0tO6 E0sO6⟩, ⟨E0O7, PySem.W.mg_of X G E0aO7, kit_no E0sW E0iO7 E0tO7 E0sO7⟩, ⟨E0O8, PySem.W.mg_of X G E0aO8, kit_no E0sW E0iO8 E0tO8 E0sO8⟩, ⟨E0O9, PySem.W.mg_of X G E0aO9, kit_no E0sW E0iO9 E0tO9 E0sO9⟩, ⟨E0O10, PySem.W.mg_of X G E0aO10, kit_no E0sW E0iO10 E0tO10 E0sO10⟩⟩,
    ⟨_, PySem.W.mg_of X G kglb0, ⟨_, rfl⟩⟩,
    ⟨_, PySem.W.mg_of X G kglb1, ⟨_, rfl⟩⟩,
    ⟨_, PySem.W.mg_of X G kglb2, ⟨_, rfl⟩⟩,
    ⟨_, PySem.W.mg_of X G kglb3, ⟨_, rfl⟩⟩,
    ⟨_, PySem.W.mg_of X G kglb4, ⟨_, rfl⟩⟩⟩
end LW
open PySem PySem.W PyProof.Rows
set_option maxRecDepth 100000 in
set_option maxHeartbeats 0 in
theorem PySem.Challenge.cw_leapwork_k50_whole_there_and_back_holds : PySem.Challenge.rw_leapwork_k50_whole_there_and_back.Holds := by
  w_on; o_law; k_head; (case hw => w_witness2)
  k_fill
  refine LW.walkG (l := PySem.Challenge.rw_leapwork_k50_whole_there_and_back) (n := 63) (k := 91) (x := "_law_script") (sp := fun w => LW.spLaw _) rfl (by decide) rfl ⟨rfl, by decide, by decide⟩ (fun w h Y => PySem.W.kIn_of Y) ?F (fun _ _ a ns hl _ hS => ⟨a, ns, rfl, hS, hl, fun _ => rfl⟩)
  case F =>
    intro w mg fa h KX G hmg
    refine' LW.law_end (LW.all_mk (w := w) KX G ?a1 ?l1 ?c1 ?k1 ?a2 ?l2 ?c2 ?k2 ?a3 ?l3 ?c3 ?k3 ?a4 ?l4 ?c4 ?k4 ?a5 ?l5 ?c5 ?k5 ?a6 ?l6 ?c6 ?k6 ?a7 ?l7 ?c7 ?k7 ?a8 ?l8 ?c8 ?k8 ?a9 ?l9 ?c9 ?k9 ?a10 ?l10 ?c10 ?k10 ?a11 ?l11 ?c11 ?k11 ?a12 ?l12 ?c12 ?k12 ?a13 ?l13 ?c13 ?k13 ?a14 ?l14 ?c14 ?k14 ?a15 ?l15 ?c15 ?k15 ?a16 ?l16 ?c16 ?k16 ?a17 ?l17 ?c17 ?k17 ?a18 ?l18 ?c18 ?k18 ?a19 ?l19 ?c19 ?k19 ?a20 ?l20 ?c20 ?k20 ?z1 ?z2 ?z3 ?z4 ?z5 ?z6 ?z7 ?z8 ?z9 ?z10 ?z11 ?z12 ?C0aC ?C0pg ?C0hd ?C0po ?C0sa ?C0mk ?C0kc ?C0n_signs ?C0n_spot ?C0n_depth ?C0a0 ?C0i0 ?C0l0 ?C0c0 ?C0k0 ?C0a1 ?C0i1 ?C0l1 ?C0c1 ?C0k1 ?C0a2 ?C0i2 ?C0l2 ?C0c2 ?C0k2 ?C0a3 ?C0i3 ?C0l3 ?C0c3 ?C0k3 ?C0a4 ?C0i4 ?C0l4 ?C0c4 ?C0k4 ?C0a5 ?C0i5 ?C0l5 ?C0c5 ?C0k5 ?C0a6 ?C0i6 ?C0l6 ?C0c6 ?C0k6 ?E0aW ?E0aB ?E0xL ?E0sa ?E0eC ?E0tC ?E0kC ?E0nf ?E0iC ?E0tI ?E0tB ?E0tp ?E0fb ?E0kB ?E0lI ?E0cI ?E0kI ?E0hg ?E0hk ?E0hd ?E0ha ?E0hn ?E0ht ?E0hm ?E0eB ?E0iB ?E0sB ?E0sW ?E0sV ?E0aO0 ?E0iO0 ?E0tO0 ?E0sO0 ?E0aO1 ?E0iO1 ?E0tO1 ?E0sO1 ?E0aO2 ?E0iO2 ?E0tO2 ?E0sO2 ?E0aO3 ?E0iO3 ?E0tO3 ?E0sO3 ?E0aO4 ?E0iO4 ?E0tO4 ?E0sO4 ?E0aO5 ?E0iO5 ?E0tO5 ?E0sO5 ?E0aO6 ?E0iO6 ?E0tO6 ?E0sO6 ?E0aO7 ?E0iO7 ?E0tO7 ?E0sO7 ?E0aO8 ?E0iO8 ?E0tO8 ?E0sO8 ?E0aO9 ?E0iO9 ?E0tO9 ?E0sO9 ?E0aO10 ?E0iO10 ?E0tO10 ?E0sO10 ?kglb0 ?kglb1 ?kglb2 ?kglb3 ?kglb4) hmg
    (case a1 => k_is); (case l1 => k_is); (case c1 => k_is); (case k1 => k_is)
    (case a2 => k_is); (case l2 => k_is); (case c2 => k_is); (case k2 => k_is)
    (case a3 => k_is); (case l3 => k_is); (case c3 => k_is); (case k3 => k_is)
    (case a4 => k_is); (case l4 => k_is); (case c4 => k_is); (case k4 => k_is)
    (case a5 => k_is); (case l5 => k_is); (case c5 => k_is); (case k5 => k_is)
    (case a6 => k_is); (case l6 => k_is); (case c6 => k_is); (case k6 => k_is)
    (case a7 => k_is); (case l7 => k_is); (case c7 => k_is); (case k7 => k_is)
    (case a8 => k_is); (case l8 => k_is); (case c8 => k_is); (case k8 => k_is)
    (case a9 => k_is); (case l9 => k_is); (case c9 => k_is); (case k9 => k_is)
    (case a10 => k_is); (case l10 => k_is); (case c10 => k_is); (case k10 => k_is)
    (case a11 => k_is); (case l11 => k_is); (case c11 => k_is); (case k11 => k_is)
    (case a12 => k_is); (case l12 => k_is); (case c12 => k_is); (case k12 => k_is)
    (case a13 => k_is); (case l13 => k_is); (case c13 => k_is); (case k13 => k_is)
    (case a14 => k_is); (case l14 => k_is); (case c14 => k_is); (case k14 => k_is)
    (case a15 => k_is); (case l15 => k_is); (case c15 => k_is); (case k15 => k_is)
    (case a16 => k_is); (case l16 => k_is); (case c16 => k_is); (case k16 => k_is)
    (case a17 => k_is); (case l17 => k_is); (case c17 => k_is); (case k17 => k_is)
    (case a18 => k_is); (case l18 => k_is); (case c18 => k_is); (case k18 => k_is)
    (case a19 => k_is); (case l19 => k_is); (case c19 => k_is); (case k19 => k_is)
    (case a20 => k_is); (case l20 => k_is); (case c20 => k_is); (case k20 => k_is)
    (case z1 => k_is)
    (case z2 => k_is)
    (case z3 => k_is)
    (case z4 => k_is)
    (case z5 => k_is)
    (case z6 => k_is)
    (case z7 => k_is)
    (case z8 => k_is)
    (case z9 => k_is)
    (case z10 => k_is)
    (case z11 => k_is)
    (case z12 => k_is)
    (case C0aC => k_is)
    (case C0pg => k_is)
    (case C0hd => k_is)
    (case C0po => k_is)
    (case C0sa => k_is)
    (case C0mk => k_is)
    (case C0kc => k_is)
    (case C0n_signs => k_is)
    (case C0n_spot => k_is)
    (case C0n_depth => k_is)
    (case C0a0 => k_is)
    (case C0i0 => k_is)
    (case C0l0 => k_is)
    (case C0c0 => k_is)
    (case C0k0 => k_is)
    (case C0a1 => k_is)
    (case C0i1 => k_is)
    (case C0l1 => k_is)
    (case C0c1 => k_is)
    (case C0k1 => k_is)
    (case C0a2 => k_is)
    (case C0i2 => k_is)
    (case C0l2 => k_is)
    (case C0c2 => k_is)
    (case C0k2 => k_is)
    (case C0a3 => k_is)
    (case C0i3 => k_is)
    (case C0l3 => k_is)
    (case C0c3 => k_is)
    (case C0k3 => k_is)
    (case C0a4 => k_is)
    (case C0i4 => k_is)
    (case C0l4 => k_is)
    (case C0c4 => k_is)
    (case C0k4 => k_is)
    (case C0a5 => k_is)
    (case C0i5 => k_is)
    (case C0l5 => k_is)
    (case C0c5 => k_is)
    (case C0k5 => k_is)
    (case C0a6 => k_is)
    (case C0i6 => k_is)
    (case C0l6 => k_is)
    (case C0c6 => k_is)
    (case C0k6 => k_is)
    (case E0aW => k_is)
    (case E0aB => k_is)
    (case E0xL => k_is)
    (case E0sa => k_is)
    (case E0eC => k_is)
    (case E0tC => k_is)
    (case E0kC => k_is)
    (case E0nf => k_is)
    (case E0iC => k_is)
    (case E0tI => k_is)
    (case E0tB => k_is)
    (case E0tp => k_is)
    (case E0fb => k_is)
    (case E0kB => k_is)
    (case E0lI => k_is)
    (case E0cI => k_is)
    (case E0kI => k_is)
    (case E0hg => k_is)
    (case E0hk => k_is)
    (case E0hd => k_is)
    (case E0ha => k_is)
    (case E0hn => k_is)
    (case E0ht => k_is)
    (case E0hm => k_is)
    (case E0eB => k_is)
    (case E0iB => k_is)
    (case E0sB => k_is)
    (case E0sW => first | rfl | k_is)
    (case E0sV => k_is)
    (case E0aO0 => k_is)
    (case E0iO0 => k_is)
    (case E0tO0 => k_is)
    (case E0sO0 => k_is)
    (case E0aO1 => k_is)
    (case E0iO1 => k_is)
    (case E0tO1 => k_is)
    (case E0sO1 => k_is)
    (case E0aO2 => k_is)
    (case E0iO2 => k_is)
    (case E0tO2 => k_is)
    (case E0sO2 => k_is)
    (case E0aO3 => k_is)
    (case E0iO3 => k_is)
    (case E0tO3 => k_is)
    (case E0sO3 => k_is)
    (case E0aO4 => k_is)
    (case E0iO4 => k_is)
    (case E0tO4 => k_is)
    (case E0sO4 => k_is)
    (case E0aO5 => k_is)
    (case E0iO5 => k_is)
    (case E0tO5 => k_is)
    (case E0sO5 => k_is)
    (case E0aO6 => k_is)
    (case E0iO6 => k_is)
    (case E0tO6 => k_is)
    (case E0sO6 => k_is)
    (case E0aO7 => k_is)
    (case E0iO7 => k_is)
    (case E0tO7 => k_is)
    (case E0sO7 => k_is)
    (case E0aO8 => k_is)
    (case E0iO8 => k_is)
    (case E0tO8 => k_is)
    (case E0sO8 => k_is)
    (case E0aO9 => k_is)
    (case E0iO9 => k_is)
    (case E0tO9 => k_is)
    (case E0sO9 => k_is)
    (case E0aO10 => k_is)
    (case E0iO10 => k_is)
    (case E0tO10 => k_is)
    (case E0sO10 => k_is)
    (case kglb0 => k_is)
    (case kglb1 => k_is)
    (case kglb2 => k_is)
    (case kglb3 => k_is)
    (case kglb4 => k_is)
#print axioms PySem.Challenge.cw_leapwork_k50_whole_there_and_back_holds
