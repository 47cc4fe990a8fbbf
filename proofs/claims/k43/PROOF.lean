import PyProof.Rows.All
import Wide.All
import OpenK.AllK
import Wide.FinOn
import KE.KStateDown
import HandS.ForMost
import HandS.Evl
import HandS.Wide
import HandS.Slots
import HandS.Deep
import HandS.TupAny
import HandS.IsInst
import HandS.Strs
import HandS.HeadEnd
import HandS.Defaults
import HandS.Zip
import HandS.NoneIn
import HandS.Property
import HandS.SlotsOwn
import HandS.Conv
import HandS.Style
import Lean
import HandS.Words
import HandS.Ends
import HandS.Head0
import HandS.Head1
import HandS.Head2
import HandS.HeadHook1
import HandS.HeadHook2
import HandS.HeadHook3
import HandS.HeadHook4
import HandS.FStr
import HandS.Star
import HandS.ListItems
import PyProof.Rows.TupMore
import KE.GoesMore
import KE.KTurns
import PyProof.InstNe
import OpenK.KMake
import KE.GoesEnum
import KE.KDictZip
import KE.KDictItemsList
import PyProof.DictUpdate
import PyProof.Rows.NestShow
import HandS.Text
import PySem.Challenge.RW_cornerdrifts_k43_whole_queues_handed_on
set_option Elab.async false
set_option linter.all false
set_option maxRecDepth 100000
set_option maxHeartbeats 4000000
set_option exponentiation.threshold 100
namespace DF
open PySem PySem.Spec L2 Evl
/-! ### promises of defs that run while no repr is under way -/
structure Room (k : Nat) (A : Around) : Prop where
  rm : L2.Room k A
  gd : A.guards = some []
section
variable {j k : Nat} {A : Around}
theorem Room.mono (r : Room k A) (h : j ≤ k) : Room j A := ⟨r.rm.mono h, r.gd⟩
theorem Room.deeper (r : Room (k + 1) A) (e : PySem.Env) : Room k (A.deeper e) := ⟨r.rm.deeper e, r.gd⟩
theorem Room.in1 (r : Room (k + 1) A) : Room k A.in1 := ⟨r.rm.in1, r.gd⟩
theorem guards_make {C : Addr} {us : List Value} {kw : List (Str × Value)} : (A.under (.builtin "type.__call__" ⟨.ref C :: us, kw⟩)).guards = A.guards := by
  first | rfl | simp [Around.under, Code.weight, Code.isCreation, Code.isGuard, Code.isCaller, Code.frames, Code.isFrame, guardIds]
theorem Room.make (r : Room (k + 1) A) (C : Addr) (us : List Value) (kw : List (Str × Value)) : Room k (A.under (.builtin "type.__call__" ⟨.ref C :: us, kw⟩)) := ⟨r.rm.make C us kw, guards_make.trans r.gd⟩
theorem Room.un (r : Room k A) : A.units + 16 * k + 200 < cLine := r.rm.un
theorem Room.units (r : Room k A) : A.units + 64 < cLine := r.rm.units
theorem hu_of (r : Room k A) : A.units + 1 < cLine := L2.hu_of r.rm
end
structure FnOk (P : Program) (w : World) (K : PySem.W.Frag) (mg : Str → Option Value) (base : Heap) (CX : CXT) (k : Nat) (f : Addr) (fd : FuncData) (ps : List Str) (sp : Sp) : Prop where
  len : ∀ vs H Q E, sp vs H Q E → vs.length = ps.length
  run : ∀ (A : Around) (outer : List PySem.Env) (s : Shared) (H : Hp) (args : Args) (us : List Value) (vs : List V) (Q : VK) (E : XK),
    Room k A → Env0 P w K mg base A outer s H → BindsTo s fd args (ps.zip us) → Vals vs us → sp vs H Q E → codeAny (model P w) A (.call (.ref f) args) (CR CX outer P w H s Q E) s
section
variable {P : Program} {w : World} {K : PySem.W.Frag} {mg : Str → Option Value} {base : Heap} {CX : CXT} {j k : Nat} {f : Addr} {fd : FuncData} {ps : List Str} {sp : Sp}
theorem FnOk.mono (G : FnOk P w K mg base CX j f fd ps sp) (h : j ≤ k) : FnOk P w K mg base CX k f fd ps sp :=
  ⟨G.len, fun A o s H a us vs Q E r => G.run A o s H a us vs Q E (r.mono h)⟩
end
section
variable {X : Cx} {CX : CXT} {k n : Nat} {f C : Addr} {fd : FuncData} {ps ks : List Str} {sp : Sp} {dvs : List V} {ds : List Value} {E : XK} {x : Str} {p pos : Pos} {e : Expr} {es : List Expr} {t : TA} {g : List Value → List Value → List Value} {gV : List V → List V → List V}
  {pins : List (Addr × Obj)} {σ : L2.St} {H : Hp} {s : Shared} {Q : VK} {us ws : List Value} {vs zs : List V}
theorem codeAny_back {A : Around} {c : Code} (hx : Passes CX X E) (I : Inv X pins σ H s) (h : codeAny (model X.prog X.w) A c (CR CX X.stack X.prog X.w H s Q E) s) :
    codeAny (model X.prog X.w) A c (fun r s' => match r with | .ok (.ret v) => EP X pins σ Q v s' | .ok _ => False | .error e => X.xe e s') s :=
  codeAny_mono h fun r s' q => by
    rcases r with e | fl
    · exact hx pins σ H s e s' I q
    · cases fl
      all_goals first | exact I.after q | exact q.elim
theorem run_fn (G : FnOk X.prog X.w X.K X.mg X.base CX k f fd ps sp) (hr : Room k X.A) (hb : Binds X.K fd ps ds) (hd : Vals dvs ds) (hx : Passes CX X E) (I : Inv X pins σ H s) (r : Vals vs us) (h : sp (vs ++ dvs) H Q E) :
    wpAny (model X.prog X.w) X.A (call (.ref f) us) (EP X pins σ Q) X.xe s :=
  have r2 := r.append hd
  wpAny_call (codeAny_back hx I (G.run X.A X.stack s H ⟨us, []⟩ (us ++ ds) (vs ++ dvs) Q E hr I.env0 (hb s us I.kIn (r2.length.symm.trans (G.len _ _ _ _ h))) r2 h))
theorem run_fnN (G : FnOk X.prog X.w X.K X.mg X.base CX k f fd ps sp) (hr : Room k X.A) (hb : KBn X.K fd ps n ks g gV) (hx : Passes CX X E) (I : Inv X pins σ H s) (r : Vals vs us) (rz : Vals zs ws) (l1 : vs.length = n) (l2 : zs.length = ks.length)
    (h : sp (gV vs zs) H Q E) : wpAny (model X.prog X.w) X.A (call (.ref f) us (ks.zip ws)) (EP X pins σ Q) X.xe s :=
  wpAny_call (codeAny_back hx I (G.run X.A X.stack s H ⟨us, ks.zip ws⟩ (g us ws) (gV vs zs) Q E hr I.env0 (hb.to s us ws I.kIn (r.length.symm.trans l1) (rz.length.symm.trans l2)) (hb.rel r rz) h))
theorem pe_call (G : FnOk X.prog X.w X.K X.mg X.base CX k f fd ps sp) (hr : Room k X.A) (hg : Gl X x) (hm : X.mg x = some (.ref f)) (hk : PySem.W.keepIn X.K (.ref f) = true) (hb : Binds X.K fd ps ds) (hd : Vals dvs ds) (hx : Passes CX X E) (ha : PA X (e :: es) t)
    (hdb : (x == ("__debug__" : Str)) = false := by decide) (he : starEach (e :: es) X.env = (false, eval e X.env) :: starEach es X.env := by rfl) (hpl : (backTo pos (starEach es X.env)).any (·.1) = false := by rfl) : PE X (.Call (.Name x p) (e :: es) [] pos) (tCall sp dvs E t) :=
  ⟨fun pins s σ H Q I h => wpAny_Call_Name_kw (ld_glob I hg hm (PySem.W.callWith_K (h₀ := X.base) I.ok.mod.kin hk (thn (ha.run pos pins s σ H _ I h) fun us s1 ⟨vs, H1, I1, r, q⟩ => ⟨I1.kIn, run_fn G hr hb hd hx I1 r q⟩) he hpl) hdb)⟩
theorem pe_call0 (G : FnOk X.prog X.w X.K X.mg X.base CX k f fd ps sp) (hr : Room k X.A) (hg : Gl X x) (hm : X.mg x = some (.ref f)) (hk : PySem.W.keepIn X.K (.ref f) = true) (hb : Binds X.K fd ps ds) (hd : Vals dvs ds) (hx : Passes CX X E)
    (hdb : (x == ("__debug__" : Str)) = false := by decide) : PE X (.Call (.Name x p) [] [] pos) (tCall sp dvs E tNil) :=
  ⟨fun pins s σ H Q I h => wpAny_Call_Name_kw (ld_glob I hg hm (PySem.W.callWith_K0 I.kIn hk (run_fn (us := []) G hr hb hd hx I .nil h)) hdb)⟩
theorem run_make (M : Mk X.K C f) (G : FnOk X.prog X.w X.K X.mg X.base CX k f fd ps sp) (hr : Room (k + 1) X.A) (hb : Binds X.K fd ps ds) (hd : Vals dvs ds) (hx : Passes CX X E) (I : Inv X pins σ H s) (r : Vals vs us)
    (h : ∀ y dy, H y = none → H dy = none → dy ≠ y → sp (.ref y :: (vs ++ dvs)) (upd (upd H dy (.own y)) y (.ins C dy [])) (fun v H2 => v = .non ∧ Q (.ref y) H2) E) :
    wpAny (model X.prog X.w) X.A (call (.ref C) us) (EP X pins σ Q) X.xe s := by
  let N := s.heap.objs.size
  have q1 := h (N + 1) N (I.hok.fresh (Nat.le_succ _)) (I.hok.fresh (Nat.le_refl _)) (Nat.ne_of_lt (Nat.lt_succ_self _))
  have J := Inv.made (C := C) I
  have r2 : Vals (V.ref (N + 1) :: (vs ++ dvs)) (Value.ref (N + 1) :: (us ++ ds)) := .cons rfl (r.append hd)
  have hl : (Value.ref (N + 1) :: us ++ ds).length = ps.length := r2.length.symm.trans (G.len _ _ _ _ q1)
  have run := G.run _ X.stack _ _ ⟨Value.ref (N + 1) :: us, []⟩ (Value.ref (N + 1) :: (us ++ ds)) _ _ E (hr.make C us []) (J.env0.make C us []) (hb _ (Value.ref (N + 1) :: us) J.kIn hl) r2 q1
  refine wpAny_call (make_map (f := f) I.kIn M.makes M.init (beq_iff_eq.mp M.fn) (codeAny_mono run fun r s' q => ?_))
  match r, q with
  | .error e, q => exact hx pins σ _ _ e s' J q
  | .ok (.ret u), q =>
    obtain ⟨v, H', I3, rv, ev, q3⟩ := J.after q
    subst ev
    exact ⟨rv, ⟨V.ref (N + 1), H', I3, rfl, q3⟩⟩
  | .ok .next, q => exact q.elim
  | .ok .brk, q => exact q.elim
  | .ok .cont, q => exact q.elim
theorem pe_make (M : Mk X.K C f) (G : FnOk X.prog X.w X.K X.mg X.base CX k f fd ps sp) (hr : Room (k + 1) X.A) (hg : Gl X x) (hm : X.mg x = some (.ref C)) (hb : Binds X.K fd ps ds) (hd : Vals dvs ds) (hx : Passes CX X E) (ha : PA X (e :: es) t)
    (hdb : (x == ("__debug__" : Str)) = false := by decide) (he : starEach (e :: es) X.env = (false, eval e X.env) :: starEach es X.env := by rfl) (hpl : (backTo pos (starEach es X.env)).any (·.1) = false := by rfl) : PE X (.Call (.Name x p) (e :: es) [] pos) (tMake C sp dvs E t) :=
  ⟨fun pins s σ H Q I h => wpAny_Call_Name_kw (ld_glob I hg hm (PySem.W.callWith_K (h₀ := X.base) I.ok.mod.kin M.kp (thn (ha.run pos pins s σ H _ I h) fun us s1 ⟨vs, H1, I1, r, q⟩ => ⟨I1.kIn, run_make M G hr hb hd hx I1 r q⟩) he hpl) hdb)⟩
end
/-- a def reached by values alone -/
def FnR (P : Program) (w : World) (K : PySem.W.Frag) (mg : Str → Option Value) (base : Heap) (CX : CXT) (k : Nat) (f : Addr) (sp : Sp) : Prop :=
  ∀ (A : Around) (outer : List PySem.Env) (s : Shared) (H : Hp) (us : List Value) (vs : List V) (Q : VK) (E : XK),
    Room k A → Env0 P w K mg base A outer s H → Vals vs us → sp vs H Q E → codeAny (model P w) A (.call (.ref f) ⟨us, []⟩) (CR CX outer P w H s Q E) s
theorem run_at {X : Cx} {CX : CXT} {n : Nat} {g : Addr} {sp : Sp} {E : XK} {pins : List (Addr × Obj)} {σ : L2.St} {H : Hp} {s : Shared} {A : Around} {Q : VK} {us : List Value} {ws : List V} (G : FnR X.prog X.w X.K X.mg X.base CX n g sp) (hr : Room n A)
    (e0 : Env0 X.prog X.w X.K X.mg X.base A X.stack s H) (hx : Passes CX X E) (I : Inv X pins σ H s) (r : Vals ws us) (h : sp ws H Q E) :
    codeAny (model X.prog X.w) A (.call (.ref g) ⟨us, []⟩) (fun r s' => match r with | .ok (.ret v) => EP X pins σ Q v s' | .ok _ => False | .error e => X.xe e s') s := codeAny_back hx I (G A X.stack s H us ws Q E hr e0 r h)
/-- from the body to the promise -/
theorem fn_of {CX : CXT} {P : Program} {w : World} {K : PySem.W.Frag} {mg : Str → Option Value} {base : Heap} {k : Nat} {f : Addr} {name qual : Str} {params : Arguments} {body : List Stmt} {scope : Scope} {dV kV doc pm cdv ct oc : Value} {an od : Option Addr} {osl : Array (Option Value)} {N ps : List Str}
    {sp : Sp} (lk : K.lookup f = some ⟨oc, od, .func (PySem.W.fnOf name qual params body scope dV kV doc pm an cdv ct), osl⟩) (hcd : PySem.W.codeIn K cdv qual = true) (S : FnScope N ps scope) (len : ∀ vs H Q E, sp vs H Q E → vs.length = ps.length)
    (hbody : ∀ (A : Around) (outer : List PySem.Env) (s : Shared) (H : Hp) (vs : List V) (Q : VK) (E : XK), Room k (A.deeper (PyProof.Rows.envOfC qual scope s.heap.objs.size f cdv)) → sp vs H Q E →
      ∃ t, PSs (cxOf CX P w K mg base N qual scope f cdv A outer s H E) body t ∧ t { nx := fun _ H' => Q .non H', rt := Q } (L2.start N vs) H) : FnOk P w K mg base CX (k + 1) f (PySem.W.fnOf name qual params body scope dV kV doc pm an cdv ct) ps sp := by
  refine ⟨len, fun A outer s H args us vs Q E hr e0 hb r hsp => ?_⟩
  have KX : K.In s.heap := e0.mod.kin.keeps fun a o h => (e0.bs a o h).1
  have hz : ∀ y ∈ ps.zip us, scope.names.lookup y.1 = some .local ∨ (scope.names.lookup y.1 = some .cell ∧ ((cellsFrom (s.heap.objs.size + 1) scope.names []).lookup y.1).isSome = true) := by
    rintro ⟨n, v⟩ hy
    exact (S.par n (List.of_mem_zip hy).1).imp id fun q => ⟨q, PySem.W.cellsFrom_some _ _ _ (.inl q)⟩
  refine codeAny_call_function hr.rm.depth (KX _ _ lk) rfl S.co S.gen rfl (PySem.W.codeRec_of KX hcd) (hb _ _ _ _ (wpAny_newFunctionEnv_cells S.kind hz fun env he s1 x => ?_))
  subst he
  have lim := (e0.mod.nolimit.keeps fun a o h => (e0.bs a o h).1 : s.heap.NoLimit).keeps x.toInCall.keep
  refine ⟨lim, codeAny_func ?_⟩
  obtain ⟨t, ht, hq⟩ := hbody A outer s H vs Q E (hr.deeper _) hsp
  have I := inv_start (CX := CX) (E := E) S hr.rm.hd e0 (len _ _ _ _ hsp) r x
  refine wpAny_mono (ht.run [] s1 (L2.start N vs) H _ I hq) (fun fl s' hs => ?_) fun e s' hs => hs
  match fl, hs with
  | .ret u, ⟨v, σ', H', J, rv, q⟩ => exact ⟨v, H', J.os, J.bare, J.base, J.hok, rv, q⟩
  | .next, ⟨σ', H', J, q⟩ => exact ⟨.non, H', J.os, J.bare, J.base, J.hok, rfl, q⟩
  | .brk, ⟨_, _, _, q⟩ => exact q.elim
  | .cont, ⟨_, _, _, q⟩ => exact q.elim
theorem fun_ok {P : Program} {w : World} {K : PySem.W.Frag} {mg : Str → Option Value} {base : Heap} {x qual : Str} {st : Stmt} {f : Addr} {fd : FuncData} {N ps : List Str} {k : Nat} {sp : Sp} (F : Fun K x qual st f fd) (S : FnScope N ps (defScope st)) (len : ∀ vs H Q E, sp vs H Q E → vs.length = ps.length)
    (hbody : ∀ (cdv : Value) (A : Around) (outer : List PySem.Env) (s : Shared) (H : Hp) (vs : List V) (Q : VK) (E : XK), Room k (A.deeper (PyProof.Rows.envOfC qual (defScope st) s.heap.objs.size f cdv)) → sp vs H Q E →
      ∃ t, PSs (cxOf CX0 P w K mg base N qual (defScope st) f cdv A outer s H E).nox (defBody st) t ∧ t { nx := fun _ H' => Q .non H', rt := Q } (L2.start N vs) H) : FnOk P w K mg base CX0 (k + 1) f fd ps sp := by
  obtain ⟨oc, od, kV, doc, pm, an, cdv, ct, osl, rfl, lk, hcd⟩ := F.ex
  exact fn_of lk hcd S len fun A outer s H vs Q E hr hsp => (hbody cdv A outer s H vs Q E hr hsp).imp fun t q => ⟨q.1.nox, q.2⟩
/-! ### the law's call -/
section
variable {P : Program} {w : World} {K : PySem.W.Frag} {mg mb : Str → Option Value} {CX : CXT} {k : Nat} {fa a : Addr} {fd : FuncData} {x : Str} {sp : Sp} {s1 : Shared} {vs : List Value} {ns : List Int}
theorem law_from (KX : K.In s1.heap) (hns : s1.heap.Ns mainGlobals mg) (hb : s1.heap.Ns builtinsNs mb) (hbb : ∀ x : Str, x ≠ "__name__" → mb x = bootBuiltins x) (hlim : s1.heap.NoLimit) (hg : s1.gens = #[])
    (ha : s1.heap.get? a = some { cls := .type "list", data := .seq vs.toArray }) (hr : Room k callerA) (F : ∀ base : Heap, K.In base → base.Ns mainGlobals mg → FnOk P w K mg base CX k fa fd [x] sp) (hbind : ∀ (s : Shared) (u : Value), BindsTo s fd ⟨[u], []⟩ [(x, u)])
    (hCX : ∀ H e s', CX [] H s1 (fun _ _ _ => False) e s' → False) (H : Hp) (hO : Only H) (hS : sp [.ref a] H (fun v _ => v = .bl true) fun _ _ _ => False) (hok : HOk P w H s1.heap) (hA : ∀ b, H b ≠ none → b = a) (hK : H a ≠ none → K.lookup a = none) :
    codeAny (model P w) callerA (.call (.ref fa) ⟨[.ref a], []⟩) (fun r s' => r = .ok (.ret (.bool true)) ∧ OldK s1.heap s'.heap ∧ s'.os = s1.os ∧ PyProof.Rows.AllBare s'.gens) s1 := by
  have away : ∀ {b : Addr}, b ≠ a → H b = none := fun {b} n => Classical.byContradiction fun z => n (hA b z)
  have dict : ∀ {b : Addr} {o : Obj} {es : Array DictEntry} {ep : Nat}, s1.heap.get? b = some o → o.data = .dict es ep → H b = none := fun {b o es ep} h d => away fun z => by
    rw [z, ha] at h
    cases h
    have z2 : Data.seq vs.toArray _ = Data.dict es ep := d
    cases z2
  have ns : ∀ {b : Addr} {m : Str → Option Value}, s1.heap.Ns b m → (hidT s1.heap H).Ns b m := fun {b m} ⟨o, es, ep, h, d, r⟩ => ⟨o, es, ep, hidT_get h (dict h d), d, r⟩
  have kin : K.In (hidT s1.heap H) := fun b o h => hidT_get (KX b o h) (by
    by_cases z : b = a
    · subst z
      exact Classical.byContradiction fun q => by rw [hK q] at h; cases h
    · exact away z)
  have md : Mod K mg (hidT s1.heap H) := ⟨kin, ns hns, ⟨mb, ns hb, hbb⟩, hlim.imp fun mc q => ⟨ns q.1, q.2⟩⟩
  have e0 : Env0 P w K mg (hidT s1.heap H) callerA [] s1 H := ⟨rfl, md, fun b o h => of_hidT h, Nat.le_of_eq (hidT_size _ _), trivial, fun b hb => absurd (show b ∈ ([] : List Addr) from hb) (by simp), hok, .of_eq hg⟩
  refine codeAny_mono ((F _ kin (ns hns)).run callerA [] s1 H ⟨[.ref a], []⟩ [.ref a] [.ref a] _ _ hr e0 (hbind s1 (.ref a)) (.cons rfl .nil) hS) fun r s' h => ?_
  match r, h with
  | .error e, h => exact (hCX H e s' h).elim
  | .ok .next, h => exact h.elim
  | .ok .brk, h => exact h.elim
  | .ok .cont, h => exact h.elim
  | .ok (.ret u), ⟨v, H', os, bare, un, hok', r', q⟩ =>
    have q' : v = .bl true := q
    subst q'
    obtain rfl : u = Value.bool true := r'
    refine ⟨rfl, OldK.of_keep fun b o h => ?_, os, bare⟩
    cases q : H b with
    | none => exact un.keep b o h q (by intro z; exact absurd (show b ∈ ([] : List Addr) from z) (by simp)) (by simp)
    | some u =>
      rcases hO b with z | ⟨ob, xs, z⟩
      · rw [q] at z; cases z
      · have h1 := (hok b _ z).1
        rw [h] at h1; cases h1
        exact (hok' b _ (un.frzs b _ _ z)).1
theorem law_call (KX : K.In s1.heap) (hns : s1.heap.Ns mainGlobals mg) (hb : s1.heap.Ns builtinsNs mb) (hbb : ∀ x : Str, x ≠ "__name__" → mb x = bootBuiltins x) (hlim : s1.heap.NoLimit) (hg : s1.gens = #[])
    (ha : s1.heap.get? a = some { cls := .type "list", data := .seq vs.toArray }) (hi : PyProof.Rows.IntsAre vs ns) (hl : ns.length ≤ sizeLine) (hr : Room k callerA) (F : ∀ base : Heap, K.In base → base.Ns mainGlobals mg → FnOk P w K mg base CX k fa fd [x] sp)
    (hbind : ∀ (s : Shared) (u : Value), BindsTo s fd ⟨[u], []⟩ [(x, u)]) (hsp : ∀ H : Hp, Only H → SqL K H a (ns.map V.int) → sp [.ref a] H (fun v _ => v = .bl true) fun _ _ _ => False) (hCX : ∀ H e s', CX [] H s1 (fun _ _ _ => False) e s' → False) :
    codeAny (model P w) callerA (.call (.ref fa) ⟨[.ref a], []⟩) (fun r s' => r = .ok (.ret (.bool true)) ∧ OldK s1.heap s'.heap ∧ s'.os = s1.os ∧ PyProof.Rows.AllBare s'.gens) s1 := by
  have rv := vals_ints hi
  have core := law_from (vs := vs) KX hns hb hbb hlim hg ha hr F hbind hCX
  cases hk : K.lookup a with
  | some o =>
    have h := KX a o hk
    rw [ha] at h
    cases h
    have hO : Only fun _ => none := fun _ => .inl rfl
    have hS : SqL K (fun _ => none) a (ns.map V.int) := .inr ⟨_, vs.toArray, _, hk, rfl, rfl, rfl, by rw [List.size_toArray, hi.length]; exact hl, by simpa using rv⟩
    exact core _ hO (hsp _ hO hS) (fun b u z => by have z2 : (none : Option HO) = some u := z; cases z2) (fun b z => absurd rfl z) fun z => absurd rfl z
  | none =>
    let H : Hp := fun b => if b = a then some (.frz { cls := .type "list", data := .seq vs.toArray } (.lst (ns.map V.int))) else none
    have at_ : H a = some (.frz { cls := .type "list", data := .seq vs.toArray } (.lst (ns.map V.int))) := if_pos rfl
    have off : ∀ {b : Addr}, b ≠ a → H b = none := fun n => if_neg n
    have hO : Only H := fun b => by
      by_cases z : b = a
      · subst z; exact .inr ⟨_, _, at_⟩
      · exact .inl (off z)
    have hS : SqL K H a (ns.map V.int) := .inl (.inr ⟨_, at_⟩)
    refine core H hO (hsp _ hO hS) (fun b u z => ?_) (fun b z => Classical.byContradiction fun n => z (off n)) fun _ => hk
    by_cases n : b = a
    · subst n
      rw [at_] at z
      cases z
      exact ⟨ha, by rw [List.length_map]; exact hl, vs, _, rv, ha⟩
    · rw [off n] at z; cases z
end
theorem walk_ofE {l : PySem.W.OpenLaw} {n k : Nat} {q : Program} {loose : List Str} {XP : (Str → Option Value) → Heap → Prop} {YP : World → Heap → Prop} {d : DefRec} {CX : CXT} {x : Str} (hn : l.most = some n) (hn2 : n ≤ sizeLine) (hdf : d.params.defaults = []) (hr : L2.Room k callerA)
    (F : ∀ (w : World) (mg : Str → Option Value) (fa : Addr) (h : Heap), YP w h → h.Ns mainGlobals mg → mg d.name = some (.ref fa) → ∃ (K : PySem.W.Frag) (fd : FuncData) (sp : Sp), K.In h ∧ (∀ (s : Shared) (u : Value), BindsTo s fd ⟨[u], []⟩ [(x, u)]) ∧
      (∀ (H : Hp) (a : Addr) (ns : List Int), ns.length ≤ n → Only H → SqL K H a (ns.map V.int) → sp [.ref a] H (fun v _ => v = .bl true) fun _ _ _ => False) ∧ ∀ base : Heap, K.In base → base.Ns mainGlobals mg → FnOk l.prog w K mg base CX k fa fd [x] sp)
    (hCX : ∀ (H : Hp) (s : Shared) (e : Value) (s' : Shared), CX [] H s (fun _ _ _ => False) e s' → False) : PySem.W.WalkO q loose XP YP l.row.toRowW d [] (fun f vs => PySem.call f vs) := by
  refine Att.attach_call hn hdf fun w s₀ s1 mg mb fa o pm cd doc a vs ns G Y ho hd hcd hmg hobj hints hlen hg => ?_
  obtain ⟨K, fd, sp, KX, hb, hsp, hF⟩ := F w mg fa _ Y G.T.g hmg
  exact law_call KX G.T.g G.T.b G.T.builtins G.T.nolimit hg hobj hints (Nat.le_trans hlen hn2) ⟨hr, rfl⟩ hF hb (fun H hO hS => hsp H a ns hlen hO hS) fun H e s' => hCX H s1 e s'
end DF
namespace DF
open PySem PySem.Spec L2 Evl

/-! ### plain data -/
inductive D where
  | non | bl (b : Bool) | int (i : Int) | str (x : Str)
  | tup (ds : List D) | lst (ds : List D) | dct (kvs : List (Str × D)) | obj (c : Nat) (fs : List D)
  | ty (n : String) | cls (c : Nat) | scr (is : List Int)

section
variable (K : PySem.W.Frag) (cl : Nat → Addr)
mutual
/-- the value v stands for the data d, as far as H tells -/
def Rp (H : Hp) : D → V → Prop
  | .non, v => v = .non
  | .bl b, v => v = .bl b
  | .int i, v => v = .int i
  | .str x, v => v = .str x
  | .ty n, v => v = .ty n
  | .cls c, v => v = .ref (cl c)
  | .tup ds, v => ∃ a vs, v = .ref a ∧ SqT K H a vs ∧ Rps H ds vs
  | .lst ds, v => ∃ a vs, v = .ref a ∧ H a = some (.lst vs) ∧ Rps H ds vs
  | .dct kvs, v => ∃ a ws, v = .ref a ∧ H a = some (.dK ws) ∧ Rkv H kvs ws
  | .obj c fs, v => ∃ a dx vs, v = .ref a ∧ SlX.Slt H a (cl c) dx (vs.map some) ∧ Rps H fs vs
  | .scr is, v => ∃ a, v = .ref a ∧ SqL K H a (is.map .int)
def Rps (H : Hp) : List D → List V → Prop
  | [], vs => vs = []
  | d :: ds, vs => ∃ v r, vs = v :: r ∧ Rp H d v ∧ Rps H ds r
def Rkv (H : Hp) : List (Str × D) → List (Key × V) → Prop
  | [], ws => ws = []
  | (k, d) :: kvs, ws => ∃ v r, ws = (.inr k, v) :: r ∧ Rp H d v ∧ Rkv H kvs r
end
end

theorem slt_ex {H H' : Hp} {a C dx : Addr} {vs : List (Option V)} (e : Ex H H') (h : SlX.Slt H a C dx vs) : SlX.Slt H' a C dx vs := by
  rcases h with ⟨h, r⟩ | ⟨h, r⟩
  · exact .inl ⟨e _ _ h, r⟩
  · exact .inr ⟨e _ _ h, e _ _ r⟩

section
variable {K : PySem.W.Frag} {cl : Nat → Addr}
mutual
theorem Rp.ex {H H' : Hp} (e : Ex H H') : ∀ (d : D) (v : V), Rp K cl H d v → Rp K cl H' d v
  | .non, v, h => h
  | .bl b, v, h => h
  | .int i, v, h => h
  | .str x, v, h => h
  | .ty x, v, h => h
  | .cls x, v, h => by simp only [Rp] at h ⊢; exact h
  | .tup ds, v, h => by
    simp only [Rp] at h ⊢
    obtain ⟨a, vs, h1, h2, h3⟩ := h
    exact ⟨a, vs, h1, ex_t e h2, Rps.ex e ds vs h3⟩
  | .lst ds, v, h => by
    simp only [Rp] at h ⊢
    obtain ⟨a, vs, h1, h2, h3⟩ := h
    exact ⟨a, vs, h1, e _ _ h2, Rps.ex e ds vs h3⟩
  | .dct kvs, v, h => by
    simp only [Rp] at h ⊢
    obtain ⟨a, ws, h1, h2, h3⟩ := h
    exact ⟨a, ws, h1, e _ _ h2, Rkv.ex e kvs ws h3⟩
  | .obj c fs, v, h => by
    simp only [Rp] at h ⊢
    obtain ⟨a, dx, vs, h1, h2, h3⟩ := h
    exact ⟨a, dx, vs, h1, slt_ex e h2, Rps.ex e fs vs h3⟩
  | .scr is, v, h => by
    simp only [Rp] at h ⊢
    obtain ⟨a, h1, h2⟩ := h
    exact ⟨a, h1, ex_l e h2⟩
theorem Rps.ex {H H' : Hp} (e : Ex H H') : ∀ (ds : List D) (vs : List V), Rps K cl H ds vs → Rps K cl H' ds vs
  | [], vs, h => by simp only [Rps] at h ⊢; exact h
  | d :: ds, vs, h => by
    simp only [Rps] at h ⊢
    obtain ⟨v, r, h1, h2, h3⟩ := h
    exact ⟨v, r, h1, Rp.ex e d v h2, Rps.ex e ds r h3⟩
theorem Rkv.ex {H H' : Hp} (e : Ex H H') : ∀ (ds : List (Str × D)) (vs : List (Key × V)), Rkv K cl H ds vs → Rkv K cl H' ds vs
  | [], vs, h => by simp only [Rkv] at h ⊢; exact h
  | (k, d) :: ds, vs, h => by
    simp only [Rkv] at h ⊢
    obtain ⟨v, r, h1, h2, h3⟩ := h
    exact ⟨v, r, h1, Rp.ex e d v h2, Rkv.ex e ds r h3⟩
end
theorem Rps.length {H : Hp} : ∀ {ds : List D} {vs : List V}, Rps K cl H ds vs → ds.length = vs.length
  | [], vs, h => by simp only [Rps] at h; subst h; rfl
  | d :: ds, vs, h => by
    simp only [Rps] at h
    obtain ⟨v, r, rfl, _, h3⟩ := h
    simp only [List.length_cons, Rps.length h3]
theorem Rps.get {H : Hp} : ∀ {ds : List D} {vs : List V} {i : Nat} {d : D}, Rps K cl H ds vs → ds[i]? = some d → ∃ v, vs[i]? = some v ∧ Rp K cl H d v
  | [], vs, i, d, h, e => by simp at e
  | d' :: ds, vs, 0, d, h, e => by
    simp only [Rps] at h
    obtain ⟨v, r, rfl, h2, h3⟩ := h
    simp at e; subst e
    exact ⟨v, rfl, h2⟩
  | d' :: ds, vs, i + 1, d, h, e => by
    simp only [Rps] at h
    obtain ⟨v, r, rfl, h2, h3⟩ := h
    simp at e
    obtain ⟨w, h4, h5⟩ := Rps.get h3 e
    exact ⟨w, by simpa using h4, h5⟩
theorem Rps.get' {H : Hp} : ∀ {ds : List D} {vs : List V} {i : Nat} {v : V}, Rps K cl H ds vs → vs[i]? = some v → ∃ d, ds[i]? = some d ∧ Rp K cl H d v
  | [], vs, i, d, h, e => by simp only [Rps] at h; subst h; simp at e
  | d' :: ds, vs, 0, d, h, e => by
    simp only [Rps] at h
    obtain ⟨v, r, rfl, h2, h3⟩ := h
    simp at e; subst e
    exact ⟨d', rfl, h2⟩
  | d' :: ds, vs, i + 1, d, h, e => by
    simp only [Rps] at h
    obtain ⟨v, r, rfl, h2, h3⟩ := h
    simp at e
    obtain ⟨w, h4, h5⟩ := Rps.get' h3 e
    exact ⟨w, by simpa using h4, h5⟩
theorem Rps.nil {H : Hp} : Rps K cl H [] [] := by simp only [Rps]
theorem Rps.cons {H : Hp} {d : D} {ds : List D} {v : V} {vs : List V} (h : Rp K cl H d v) (r : Rps K cl H ds vs) : Rps K cl H (d :: ds) (v :: vs) := by
  simp only [Rps]
  exact ⟨v, vs, rfl, h, r⟩
theorem Rps.append {H : Hp} : ∀ {ds es : List D} {vs ws : List V}, Rps K cl H ds vs → Rps K cl H es ws → Rps K cl H (ds ++ es) (vs ++ ws)
  | [], es, vs, ws, h, h2 => by simp only [Rps] at h; subst h; exact h2
  | d :: ds, es, vs, ws, h, h2 => by
    simp only [Rps] at h
    obtain ⟨v, r, rfl, h3, h4⟩ := h
    exact Rps.cons h3 (Rps.append h4 h2)
theorem Rps.take {H : Hp} : ∀ {ds : List D} {vs : List V} (n : Nat), Rps K cl H ds vs → Rps K cl H (ds.take n) (vs.take n)
  | [], vs, n, h => by simp only [Rps] at h; subst h; simp only [List.take_nil]; exact Rps.nil
  | d :: ds, vs, 0, h => Rps.nil
  | d :: ds, vs, n + 1, h => by
    simp only [Rps] at h
    obtain ⟨v, r, rfl, h3, h4⟩ := h
    exact Rps.cons h3 (Rps.take n h4)
theorem Rps.drop {H : Hp} : ∀ {ds : List D} {vs : List V} (n : Nat), Rps K cl H ds vs → Rps K cl H (ds.drop n) (vs.drop n)
  | [], vs, n, h => by simp only [Rps] at h; subst h; simp only [List.drop_nil]; exact Rps.nil
  | d :: ds, vs, 0, h => h
  | d :: ds, vs, n + 1, h => by
    simp only [Rps] at h
    obtain ⟨v, r, rfl, h3, h4⟩ := h
    exact Rps.drop n h4
theorem Rps.set {H : Hp} {d : D} {v : V} (h0 : Rp K cl H d v) : ∀ {ds : List D} {vs : List V} (n : Nat), Rps K cl H ds vs → Rps K cl H (ds.set n d) (vs.set n v)
  | [], vs, n, h => by simp only [Rps] at h; subst h; exact Rps.nil
  | e :: ds, vs, 0, h => by
    simp only [Rps] at h
    obtain ⟨w, r, rfl, h3, h4⟩ := h
    exact Rps.cons h0 h4
  | e :: ds, vs, n + 1, h => by
    simp only [Rps] at h
    obtain ⟨w, r, rfl, h3, h4⟩ := h
    exact Rps.cons h3 (Rps.set h0 n h4)
theorem Rps.eraseIdx {H : Hp} : ∀ {ds : List D} {vs : List V} (n : Nat), Rps K cl H ds vs → Rps K cl H (ds.eraseIdx n) (vs.eraseIdx n)
  | [], vs, n, h => by simp only [Rps] at h; subst h; exact Rps.nil
  | e :: ds, vs, 0, h => by
    simp only [Rps] at h
    obtain ⟨w, r, rfl, h3, h4⟩ := h
    exact h4
  | e :: ds, vs, n + 1, h => by
    simp only [Rps] at h
    obtain ⟨w, r, rfl, h3, h4⟩ := h
    exact Rps.cons h3 (Rps.eraseIdx n h4)
theorem Rps.reverse {H : Hp} : ∀ {ds : List D} {vs : List V}, Rps K cl H ds vs → Rps K cl H ds.reverse vs.reverse
  | [], vs, h => by simp only [Rps] at h; subst h; exact Rps.nil
  | e :: ds, vs, h => by
    simp only [Rps] at h
    obtain ⟨w, r, rfl, h3, h4⟩ := h
    simp only [List.reverse_cons]
    exact Rps.append (Rps.reverse h4) (Rps.cons h3 Rps.nil)
end

/-! ### what is hidden -/
open Classical in
noncomputable def hide (H : Hp) (P : Addr → Prop) : Hp := fun a => if P a then none else H a
theorem hide_some {H : Hp} {P : Addr → Prop} {a : Addr} {o : HO} : hide H P a = some o ↔ ¬ P a ∧ H a = some o := by
  unfold hide
  by_cases h : P a
  · simp [h]
  · simp [h]
theorem hide_ex (H : Hp) (P : Addr → Prop) : Ex (hide H P) H := fun a o h => (hide_some.mp h).2
theorem hide_mono {H H' : Hp} {P P' : Addr → Prop} (h : ∀ a o, ¬ P a → H a = some o → ¬ P' a ∧ H' a = some o) : Ex (hide H P) (hide H' P') := fun a o q => by
  obtain ⟨q1, q2⟩ := hide_some.mp q
  exact hide_some.mpr (h a o q1 q2)
theorem hide_le {H : Hp} {P P' : Addr → Prop} (h : ∀ a, P' a → P a) : Ex (hide H P) (hide H P') := hide_mono fun a o q e => ⟨fun z => q (h a z), e⟩
theorem hide_of_ex {H H' : Hp} {P : Addr → Prop} (e : Ex H H') : Ex (hide H P) (hide H' P) := hide_mono fun a o q z => ⟨q, e a o z⟩

/-! ### environments -/
inductive Ct where
  | lst (ds : List D) | dct (kvs : List (Str × D))
inductive Slot where
  | un | val (d : D) | own (c : Ct) | pin (c : Ct)
abbrev Env := List Slot
def Ct.toD : Ct → D
  | .lst ds => .lst ds
  | .dct kvs => .dct kvs
def kd (ρ : Env) (i : Nat) : Nat := match ρ[i]? with
  | some (.own _) => 1
  | some (.pin _) => 2
  | _ => 0

section
variable (K : PySem.W.Frag) (cl : Nat → Addr)
/-- the content c stands at p in H; its parts are seen in Hv -/
def Rc (Hv H : Hp) (c : Ct) (p : Addr) : Prop := match c with
  | .lst ds => ∃ vs, H p = some (.lst vs) ∧ Rps K cl Hv ds vs
  | .dct kvs => ∃ ws, H p = some (.dK ws) ∧ Rkv K cl Hv kvs ws
def hid (O : Addr → Prop) (ρ : Env) (σ : St) (a : Addr) : Prop := O a ∨ ∃ i, kd ρ i = 1 ∧ σ[i]? = some (some (.ref a))
def Mu (ρ : Env) (σ : St) (a : Addr) : Prop := ∃ i, kd ρ i ≠ 0 ∧ σ[i]? = some (some (.ref a))
noncomputable def vis (O : Addr → Prop) (ρ : Env) (σ : St) (H : Hp) : Hp := hide H (hid O ρ σ)
def SlotOk (O : Addr → Prop) (ρ : Env) (σ : St) (H : Hp) (i : Nat) : Slot → Prop
  | .un => True
  | .val d => ∃ v, σ[i]? = some (some v) ∧ Rp K cl (vis O ρ σ H) d v
  | .own c => ∃ p, σ[i]? = some (some (.ref p)) ∧ ¬ O p ∧ Rc K cl (vis O ρ σ H) H c p
  | .pin c => ∃ p, σ[i]? = some (some (.ref p)) ∧ O p ∧ Rc K cl (vis O ρ σ H) H c p
structure Rel (O : Addr → Prop) (ρ : Env) (σ : St) (H : Hp) : Prop where
  len : ρ.length = σ.length
  at_ : ∀ i s, ρ[i]? = some s → SlotOk K cl O ρ σ H i s
  dist : ∀ i j a, kd ρ i ≠ 0 → kd ρ j ≠ 0 → σ[i]? = some (some (.ref a)) → σ[j]? = some (some (.ref a)) → i = j
  dom : ∀ a, O a → H a ≠ none
end

/-- what is not to be changed stays -/
def Fr (M : Addr → Prop) (H H' : Hp) : Prop := ∀ a o, H a = some o → ¬ M a → H' a = some o
theorem Fr.refl {M : Addr → Prop} (H : Hp) : Fr M H H := fun _ _ h _ => h
theorem Fr.of_ex {M : Addr → Prop} {H H' : Hp} (e : Ex H H') : Fr M H H' := fun a o h _ => e a o h
theorem Fr.trans {M M' : Addr → Prop} {H H1 H2 : Hp} (a : Fr M H H1) (b : Fr M' H1 H2) (m : ∀ x, M' x → M x ∨ H x = none) : Fr M H H2 := fun x o h n => by
  refine b x o (a x o h n) fun z => ?_
  rcases m x z with z | z
  · exact n z
  · rw [h] at z; cases z

section
variable {K : PySem.W.Frag} {cl : Nat → Addr} {O : Addr → Prop} {ρ ρ' ρ1 ρ2 : Env} {σ σ' σ1 σ2 : St} {H H' H1 H2 : Hp}
theorem Rc.ex {Hv Hv' H H' : Hp} {c : Ct} {p : Addr} (e : Ex Hv Hv') (h : Rc K cl Hv H c p) (k : ∀ o, H p = some o → H' p = some o) : Rc K cl Hv' H' c p := by
  cases c with
  | lst ds =>
    obtain ⟨vs, h1, h2⟩ := h
    exact ⟨vs, k _ h1, Rps.ex e _ _ h2⟩
  | dct ds =>
    obtain ⟨vs, h1, h2⟩ := h
    exact ⟨vs, k _ h1, Rkv.ex e _ _ h2⟩
theorem Rc.some {Hv H : Hp} {c : Ct} {p : Addr} (h : Rc K cl Hv H c p) : H p ≠ none := by
  cases c with
  | lst ds =>
    obtain ⟨vs, h1, h2⟩ := h
    rw [h1]; exact Option.some_ne_none _
  | dct ds =>
    obtain ⟨vs, h1, h2⟩ := h
    rw [h1]; exact Option.some_ne_none _
theorem Rel.own_at (r : Rel K cl O ρ σ H) {i : Nat} (h : kd ρ i = 1) : ∃ c p, ρ[i]? = some (.own c) ∧ σ[i]? = some (some (.ref p)) ∧ ¬ O p ∧ Rc K cl (vis O ρ σ H) H c p := by
  unfold kd at h
  split at h
  · rename_i c e
    obtain ⟨p, h1, h2, h3⟩ := r.at_ i _ e
    exact ⟨c, p, e, h1, h2, h3⟩
  · cases h
  · cases h
theorem Rel.pin_at (r : Rel K cl O ρ σ H) {i : Nat} (h : kd ρ i = 2) : ∃ c p, ρ[i]? = some (.pin c) ∧ σ[i]? = some (some (.ref p)) ∧ O p ∧ Rc K cl (vis O ρ σ H) H c p := by
  unfold kd at h
  split at h
  · cases h
  · rename_i c e
    obtain ⟨p, h1, h2, h3⟩ := r.at_ i _ e
    exact ⟨c, p, e, h1, h2, h3⟩
  · cases h
theorem kd_le (ρ : Env) (i : Nat) : kd ρ i = 0 ∨ kd ρ i = 1 ∨ kd ρ i = 2 := by
  unfold kd
  split
  · exact .inr (.inl rfl)
  · exact .inr (.inr rfl)
  · exact .inl rfl
/-- what may change is hidden -/
theorem Rel.mu_hid (r : Rel K cl O ρ σ H) {a : Addr} (h : Mu ρ σ a) : hid O ρ σ a := by
  obtain ⟨i, h1, h2⟩ := h
  rcases kd_le ρ i with z | z | z
  · exact absurd z h1
  · exact .inr ⟨i, z, h2⟩
  · obtain ⟨c, p, _, e, o, _⟩ := r.pin_at z
    rw [h2] at e; cases e
    exact .inl o
theorem Rel.mu_some (r : Rel K cl O ρ σ H) {a : Addr} (h : Mu ρ σ a) : H a ≠ none := by
  obtain ⟨i, h1, h2⟩ := h
  rcases kd_le ρ i with z | z | z
  · exact absurd z h1
  · obtain ⟨c, p, _, e, _, q⟩ := r.own_at z
    rw [h2] at e; cases e
    exact q.some
  · obtain ⟨c, p, _, e, _, q⟩ := r.pin_at z
    rw [h2] at e; cases e
    exact q.some
theorem Rel.hid_some (r : Rel K cl O ρ σ H) {a : Addr} (h : hid O ρ σ a) : H a ≠ none := by
  rcases h with h | ⟨i, h1, h2⟩
  · exact r.dom a h
  · exact r.mu_some ⟨i, by rw [h1]; decide, h2⟩
/-- the heap grows -/
theorem Rel.ex (r : Rel K cl O ρ σ H) (e : Ex H H') : Rel K cl O ρ σ H' := by
  refine ⟨r.len, fun i s h => ?_, r.dist, fun a h z => ?_⟩
  · have q := r.at_ i s h
    cases s with
    | un => trivial
    | val d =>
      obtain ⟨v, h1, h2⟩ := q
      exact ⟨v, h1, Rp.ex (hide_of_ex e) _ _ h2⟩
    | own c =>
      obtain ⟨v, h1, h2, h3⟩ := q
      exact ⟨v, h1, h2, h3.ex (hide_of_ex e) fun o z => e _ _ z⟩
    | pin c =>
      obtain ⟨v, h1, h2, h3⟩ := q
      exact ⟨v, h1, h2, h3.ex (hide_of_ex e) fun o z => e _ _ z⟩
  · have := r.dom a h
    cases q : H a with
    | none => exact this q
    | some o => rw [e a o q] at z; cases z

/-- what is true behind a step -/
structure Po (K : PySem.W.Frag) (cl : Nat → Addr) (O : Addr → Prop) (ρ : Env) (σ : St) (H : Hp) (ρ' : Env) (σ' : St) (H' : Hp) : Prop where
  fr : Fr (Mu ρ σ) H H'
  mu : ∀ a, Mu ρ' σ' a → Mu ρ σ a ∨ H a = none
  rel : Rel K cl O ρ' σ' H'
  pn : ∀ i, kd ρ i = 2 → kd ρ' i = 2 ∧ σ'[i]? = σ[i]?
theorem Po.refl (r : Rel K cl O ρ σ H) : Po K cl O ρ σ H ρ σ H := ⟨.refl H, fun _ h => .inl h, r, fun _ h => ⟨h, rfl⟩⟩
theorem Po.of_ex (r : Rel K cl O ρ σ H) (e : Ex H H') : Po K cl O ρ σ H ρ σ H' := ⟨.of_ex e, fun _ h => .inl h, r.ex e, fun _ h => ⟨h, rfl⟩⟩
theorem fr_some {M : Addr → Prop} {a : Addr} (f : Fr M H H') (m : ¬ M a) (h : H' a = none) : H a = none := by
  cases q : H a with
  | none => rfl
  | some o => rw [f a o q m] at h; cases h
theorem Po.trans (p : Po K cl O ρ σ H ρ1 σ1 H1) (q : Po K cl O ρ1 σ1 H1 ρ2 σ2 H2) : Po K cl O ρ σ H ρ2 σ2 H2 := by
  have mu : ∀ a, Mu ρ2 σ2 a → Mu ρ σ a ∨ H a = none := fun a h => by
    rcases q.mu a h with z | z
    · exact p.mu a z
    · by_cases m : Mu ρ σ a
      · exact .inl m
      · exact .inr (fr_some p.fr m z)
  refine ⟨p.fr.trans q.fr p.mu, mu, q.rel, fun i h => ?_⟩
  obtain ⟨h1, h2⟩ := p.pn i h
  obtain ⟨h3, h4⟩ := q.pn i h1
  exact ⟨h3, h4.trans h2⟩
/-- what is seen stays seen -/
theorem Po.ex (r : Rel K cl O ρ σ H) (p : Po K cl O ρ σ H ρ' σ' H') : Ex (vis O ρ σ H) (vis O ρ' σ' H') := hide_mono fun a o h e => by
  have nm : ¬ Mu ρ σ a := fun z => h (r.mu_hid z)
  refine ⟨fun z => ?_, p.fr a o e nm⟩
  rcases z with z | ⟨i, z1, z2⟩
  · exact h (.inl z)
  · rcases p.mu a ⟨i, by rw [z1]; decide, z2⟩ with m | m
    · exact nm m
    · rw [e] at m; cases m
end

/-! ### what comes of it -/
inductive Res (α : Type) where
  | ok (a : α) | err (c : Str) (d : D) (ρ : Env) | bad
def Res.bind {α β : Type} (r : Res α) (f : α → Res β) : Res β := match r with
  | .ok a => f a
  | .err c d ρ => .err c d ρ
  | .bad => .bad
@[simp] theorem bind_ok {α β : Type} (a : α) (f : α → Res β) : (Res.ok a).bind f = f a := rfl
@[simp] theorem bind_bad {α β : Type} (f : α → Res β) : (Res.bad : Res α).bind f = .bad := rfl
@[simp] theorem bind_err {α β : Type} (c : Str) (d : D) (ρ : Env) (f : α → Res β) : (Res.err c d ρ : Res α).bind f = .err c d ρ := rfl
theorem bind_assoc {α β γ : Type} (r : Res α) (f : α → Res β) (g : β → Res γ) : (r.bind f).bind g = r.bind fun a => (f a).bind g := by cases r <;> rfl
def lft {α : Type} : Option α → Res α
  | some a => .ok a
  | none => .bad
@[simp] theorem lft_some {α : Type} (a : α) : lft (some a) = .ok a := rfl
@[simp] theorem lft_none {α : Type} : lft (none : Option α) = .bad := rfl
def Gd {α : Type} (r : Res α) (S : α → Prop) (Z : Str → D → Env → Prop) : Prop := match r with
  | .ok a => S a
  | .err c d ρ => Z c d ρ
  | .bad => False
theorem Gd.bind {α β : Type} {r : Res α} {f : α → Res β} {S : β → Prop} {Z : Str → D → Env → Prop} : Gd (r.bind f) S Z ↔ Gd r (fun a => Gd (f a) S Z) Z := by cases r <;> exact Iff.rfl
theorem Gd.mono {α : Type} {r : Res α} {S S' : α → Prop} {Z Z' : Str → D → Env → Prop} (h : Gd r S Z) (hs : ∀ a, S a → S' a) (hz : ∀ c d ρ, Z c d ρ → Z' c d ρ) : Gd r S' Z' := by
  cases r with
  | ok a => exact hs _ h
  | err c d ρ => exact hz _ _ _ h
  | bad => exact h

/-- what is wanted of an exception -/
abbrev ZK := (Addr → Prop) → Env → St → Hp → Str → D → Env → Prop
structure ZOk (K : PySem.W.Frag) (cl : Nat → Addr) (Z : ZK) : Prop where
  mono : ∀ {O ρ σ H ρ1 σ1 H1 c d ρ'}, Rel K cl O ρ σ H → Po K cl O ρ σ H ρ1 σ1 H1 → Z O ρ σ H c d ρ' → Z O ρ1 σ1 H1 c d ρ'
def Z0 : ZK := fun _ _ _ _ _ _ _ => False
theorem Z0.ok {K : PySem.W.Frag} {cl : Nat → Addr} : ZOk K cl Z0 := ⟨fun _ _ h => h⟩

/-! ### judgements -/
section
variable (K : PySem.W.Frag) (cl : Nat → Addr) (Z : ZK)
/-- behind an expression: the frame's slots as they were, the same kinds -/
structure PoE (O : Addr → Prop) (ρ : Env) (σ : St) (H : Hp) (d : D) (ρ' : Env) (v : V) (H' : Hp) : Prop where
  po : Po K cl O ρ σ H ρ' σ H'
  sh : ∀ i, kd ρ i = kd ρ' i
  val : Rp K cl (vis O ρ' σ H') d v
abbrev ME := Env → Res (D × Env)
def wE (m : ME) : TE := fun σ H Q => ∃ ρ O, Rel K cl O ρ σ H ∧ Gd (m ρ) (fun x => ∀ v H', PoE K cl O ρ σ H x.1 x.2 v H' → Q v H') (Z O ρ σ H)
abbrev MT := Env → Res (Bool × Env)
structure PoT (O : Addr → Prop) (ρ : Env) (σ : St) (H : Hp) (ρ' : Env) (H' : Hp) : Prop where
  po : Po K cl O ρ σ H ρ' σ H'
  sh : ∀ i, kd ρ i = kd ρ' i
def wT (m : MT) : TT := fun σ H Q => ∃ ρ O, Rel K cl O ρ σ H ∧ Gd (m ρ) (fun x => ∀ H', PoT K cl O ρ σ H x.2 H' → Q x.1 H') (Z O ρ σ H)
abbrev MA := Env → Res (List D × Env)
structure PoA (O : Addr → Prop) (ρ : Env) (σ : St) (H : Hp) (ds : List D) (ρ' : Env) (vs : List V) (H' : Hp) : Prop where
  po : Po K cl O ρ σ H ρ' σ H'
  sh : ∀ i, kd ρ i = kd ρ' i
  val : Rps K cl (vis O ρ' σ H') ds vs
def wA (m : MA) : TA := fun σ H Q => ∃ ρ O, Rel K cl O ρ σ H ∧ Gd (m ρ) (fun x => ∀ vs H', PoA K cl O ρ σ H x.1 x.2 vs H' → Q vs H') (Z O ρ σ H)
/-- an expression that makes a new list or dict -/
def ins (O : Addr → Prop) (p : Addr) : Addr → Prop := fun a => O a ∨ a = p
abbrev ML := Env → Res (Ct × Env)
structure PoL (O : Addr → Prop) (ρ : Env) (σ : St) (H : Hp) (c : Ct) (ρ' : Env) (p : Addr) (H' : Hp) : Prop where
  new : H p = none
  fr : Fr (Mu ρ σ) H H'
  sh : ∀ i, kd ρ i = kd ρ' i
  rel : Rel K cl (ins O p) ρ' σ H'
  val : Rc K cl (vis (ins O p) ρ' σ H') H' c p
def wL (m : ML) : TE := fun σ H Q => ∃ ρ O, Rel K cl O ρ σ H ∧ Gd (m ρ) (fun x => ∀ p H', PoL K cl O ρ σ H x.1 x.2 p H' → Q (.ref p) H') (Z O ρ σ H)
inductive Out where
  | nxt (ρ : Env) | ret (d : D) (ρ : Env) | brk (ρ : Env) | cnt (ρ : Env)
abbrev MS := Env → Res Out
def SOk (O : Addr → Prop) (ρ : Env) (σ : St) (H : Hp) (D : Ends) : Out → Prop
  | .nxt ρ' => ∀ σ' H', Po K cl O ρ σ H ρ' σ' H' → D.nx σ' H'
  | .brk ρ' => ∀ σ' H', Po K cl O ρ σ H ρ' σ' H' → D.bk σ' H'
  | .cnt ρ' => ∀ σ' H', Po K cl O ρ σ H ρ' σ' H' → D.ct σ' H'
  | .ret d ρ' => ∀ v σ' H', Po K cl O ρ σ H ρ' σ' H' → Rp K cl (vis O ρ' σ' H') d v → D.rt v H'
def wS (m : MS) : TS := fun D σ H => ∃ ρ O, Rel K cl O ρ σ H ∧ Gd (m ρ) (SOk K cl O ρ σ H D) (Z O ρ σ H)
end

section
variable {K : PySem.W.Frag} {cl : Nat → Addr} {Z : ZK} {X : Cx} {e : Expr} {st : Stmt}
theorem _root_.L2.PE.wk {t t' : TE} (h : PE X e t) (k : ∀ σ H Q, t' σ H Q → t σ H Q) : PE X e t' := ⟨fun pins s σ H Q I q => h.run pins s σ H Q I (k _ _ _ q)⟩
theorem _root_.L2.PT.wk {t t' : TT} (h : PT X e t) (k : ∀ σ H Q, t' σ H Q → t σ H Q) : PT X e t' := ⟨fun pins s σ H Q I q => h.run pins s σ H Q I (k _ _ _ q)⟩
theorem _root_.L2.PW.wk {t t' : TT} (h : PW X e t) (k : ∀ σ H Q, t' σ H Q → t σ H Q) : PW X e t' := ⟨fun wh pins s σ H Q I q => h.run wh pins s σ H Q I (k _ _ _ q)⟩
theorem _root_.L2.PA.wk {es : List Expr} {t t' : TA} (h : PA X es t) (k : ∀ σ H Q, t' σ H Q → t σ H Q) : PA X es t' := ⟨fun pos pins s σ H Q I q => h.run pos pins s σ H Q I (k _ _ _ q)⟩
theorem _root_.L2.PS.wk {t t' : TS} (h : PS X st t) (k : ∀ D σ H, t' D σ H → t D σ H) : PS X st t' := ⟨fun pins s σ H D I q => h.run pins s σ H D I (k _ _ _ q)⟩
theorem _root_.L2.PSs.wk {sts : List Stmt} {t t' : TS} (h : PSs X sts t) (k : ∀ D σ H, t' D σ H → t D σ H) : PSs X sts t' := ⟨fun pins s σ H D I q => h.run pins s σ H D I (k _ _ _ q)⟩

/-- the first part runs, the rest is wanted of it -/
theorem wE_then {β : Type} {m : ME} {f : D × Env → Res β} {S : β → Prop} {σ : St} {H : Hp} {R : VK} (z : ZOk K cl Z)
    {ρ : Env} {O : Addr → Prop} (r : Rel K cl O ρ σ H) (h : Gd ((m ρ).bind f) S (Z O ρ σ H))
    (k : ∀ d ρ1 v H1, PoE K cl O ρ σ H d ρ1 v H1 → Gd (f (d, ρ1)) S (Z O ρ1 σ H1) → R v H1) : wE K cl Z m σ H R := by
  refine ⟨ρ, O, r, (Gd.bind.mp h).mono (fun x q v H' p => k x.1 x.2 v H' p (q.mono (fun _ z => z) fun c d ρ2 w => z.mono r p.po w)) fun _ _ _ w => w⟩
theorem wT_then {β : Type} {m : MT} {f : Bool × Env → Res β} {S : β → Prop} {σ : St} {H : Hp} {R : Bool → Hp → Prop} (z : ZOk K cl Z)
    {ρ : Env} {O : Addr → Prop} (r : Rel K cl O ρ σ H) (h : Gd ((m ρ).bind f) S (Z O ρ σ H))
    (k : ∀ b ρ1 H1, PoT K cl O ρ σ H ρ1 H1 → Gd (f (b, ρ1)) S (Z O ρ1 σ H1) → R b H1) : wT K cl Z m σ H R := by
  refine ⟨ρ, O, r, (Gd.bind.mp h).mono (fun x q H' p => k x.1 x.2 H' p (q.mono (fun _ z => z) fun c d ρ2 w => z.mono r p.po w)) fun _ _ _ w => w⟩
theorem wA_then {β : Type} {m : MA} {f : List D × Env → Res β} {S : β → Prop} {σ : St} {H : Hp} {R : List V → Hp → Prop} (z : ZOk K cl Z)
    {ρ : Env} {O : Addr → Prop} (r : Rel K cl O ρ σ H) (h : Gd ((m ρ).bind f) S (Z O ρ σ H))
    (k : ∀ ds ρ1 vs H1, PoA K cl O ρ σ H ds ρ1 vs H1 → Gd (f (ds, ρ1)) S (Z O ρ1 σ H1) → R vs H1) : wA K cl Z m σ H R := by
  refine ⟨ρ, O, r, (Gd.bind.mp h).mono (fun x q v H' p => k x.1 x.2 v H' p (q.mono (fun _ z => z) fun c d ρ2 w => z.mono r p.po w)) fun _ _ _ w => w⟩
theorem hid_sh {O : Addr → Prop} {ρ ρ' : Env} {σ : St} (h : ∀ i, kd ρ i = kd ρ' i) : hid O ρ' σ = hid O ρ σ := by
  funext a
  unfold hid
  simp only [h]
theorem PoE.seq {O : Addr → Prop} {ρ ρ1 ρ2 : Env} {σ : St} {H H1 H2 : Hp} {d d2 : D} {v v2 : V} (p : PoE K cl O ρ σ H d ρ1 v H1) (q : PoE K cl O ρ1 σ H1 d2 ρ2 v2 H2) : PoE K cl O ρ σ H d2 ρ2 v2 H2 :=
  ⟨p.po.trans q.po, fun i => (p.sh i).trans (q.sh i), q.val⟩
theorem PoT.seq {O : Addr → Prop} {ρ ρ1 ρ2 : Env} {σ : St} {H H1 H2 : Hp} (p : PoT K cl O ρ σ H ρ1 H1) (q : PoT K cl O ρ1 σ H1 ρ2 H2) : PoT K cl O ρ σ H ρ2 H2 :=
  ⟨p.po.trans q.po, fun i => (p.sh i).trans (q.sh i)⟩
theorem PoE.poT {O : Addr → Prop} {ρ ρ' : Env} {σ : St} {H H' : Hp} {d : D} {v : V} (p : PoE K cl O ρ σ H d ρ' v H') : PoT K cl O ρ σ H ρ' H' := ⟨p.po, p.sh⟩
theorem PoA.poT {O : Addr → Prop} {ρ ρ' : Env} {σ : St} {H H' : Hp} {d : List D} {v : List V} (p : PoA K cl O ρ σ H d ρ' v H') : PoT K cl O ρ σ H ρ' H' := ⟨p.po, p.sh⟩
theorem PoT.refl {O : Addr → Prop} {ρ : Env} {σ : St} {H : Hp} (r : Rel K cl O ρ σ H) : PoT K cl O ρ σ H ρ H := ⟨Po.refl r, fun _ => rfl⟩
/-- behind a step that only lays new things -/
theorem PoT.lays {O : Addr → Prop} {ρ ρ1 : Env} {σ : St} {H H1 H2 : Hp} {d : D} {v : V} (p : PoT K cl O ρ σ H ρ1 H1) (e : Ex H1 H2) (h : Rp K cl (hide H2 (hid O ρ1 σ)) d v) : PoE K cl O ρ σ H d ρ1 v H2 :=
  ⟨p.po.trans (Po.of_ex p.po.rel e), p.sh, h⟩
end
end DF
namespace DF
open PySem PySem.Spec L2 Evl

/-! ### data as PyData -/
mutual
def toP : D → Option PyData
  | .non => some .none
  | .bl b => some (.bool b)
  | .int i => some (.int i)
  | .str x => some (.str x)
  | .tup ds => (toPs ds).map .tuple
  | .lst ds => (toPs ds).map .list
  | _ => none
def toPs : List D → Option (List PyData)
  | [] => some []
  | d :: ds => match toP d, toPs ds with
    | some p, some ps => some (p :: ps)
    | _, _ => none
end
section
variable {K : PySem.W.Frag} {cl : Nat → Addr} {H : Hp}
mutual
theorem dp_of : ∀ (d : D) (v : V) (p : PyData), Rp K cl H d v → toP d = some p → Dp K H v p
  | .non, v, p, h, e => by
    simp only [Rp] at h; simp only [toP, Option.some.injEq] at e; subst h; subst e; exact .non
  | .bl b, v, p, h, e => by
    simp only [Rp] at h; simp only [toP, Option.some.injEq] at e; subst h; subst e; exact .bl b
  | .int b, v, p, h, e => by
    simp only [Rp] at h; simp only [toP, Option.some.injEq] at e; subst h; subst e; exact .int b
  | .str b, v, p, h, e => by
    simp only [Rp] at h; simp only [toP, Option.some.injEq] at e; subst h; subst e; exact .str b
  | .tup ds, v, p, h, e => by
    simp only [Rp] at h
    simp only [toP, Option.map_eq_some_iff] at e
    obtain ⟨a, vs, rfl, h2, h3⟩ := h
    obtain ⟨ps, e1, rfl⟩ := e
    exact .tup h2 (dps_of ds vs ps h3 e1)
  | .lst ds, v, p, h, e => by
    simp only [Rp] at h
    simp only [toP, Option.map_eq_some_iff] at e
    obtain ⟨a, vs, rfl, h2, h3⟩ := h
    obtain ⟨ps, e1, rfl⟩ := e
    exact .lst (SqL.of h2) (dps_of ds vs ps h3 e1)
  | .dct _, v, p, h, e => by simp only [toP] at e; cases e
  | .obj _ _, v, p, h, e => by simp only [toP] at e; cases e
  | .ty _, v, p, h, e => by simp only [toP] at e; cases e
  | .cls _, v, p, h, e => by simp only [toP] at e; cases e
  | .scr _, v, p, h, e => by simp only [toP] at e; cases e
theorem dps_of : ∀ (ds : List D) (vs : List V) (ps : List PyData), Rps K cl H ds vs → toPs ds = some ps → DpAll K H vs ps
  | [], vs, ps, h, e => by
    simp only [Rps] at h; simp only [toPs, Option.some.injEq] at e; subst h; subst e; exact .nil
  | d :: ds, vs, ps, h, e => by
    simp only [Rps] at h
    obtain ⟨v, r, rfl, h1, h2⟩ := h
    simp only [toPs] at e
    split at e
    · rename_i p ps' e1 e2
      simp only [Option.some.injEq] at e
      subst e
      exact .cons (dp_of d v p h1 e1) (dps_of ds r ps' h2 e2)
    · cases e
end
end

/-! ### flat data -/
def toF : D → Option V
  | .non => some .non
  | .bl b => some (.bl b)
  | .int i => some (.int i)
  | .str x => some (.str x)
  | _ => none
def toFs : List D → Option (List V)
  | [] => some []
  | d :: ds => match toF d, toFs ds with
    | some p, some ps => some (p :: ps)
    | _, _ => none
theorem toF_rp {K : PySem.W.Frag} {cl : Nat → Addr} {H : Hp} {d : D} {v w : V} (h : Rp K cl H d v) (e : toF d = some w) : v = w ∧ flatV v = true := by
  cases d <;> simp only [toF, Option.some.injEq] at e <;> try (cases e; done)
  all_goals
    simp only [Rp] at h
    subst h; subst e
    exact ⟨rfl, rfl⟩
theorem toFs_rp {K : PySem.W.Frag} {cl : Nat → Addr} {H : Hp} : ∀ {ds : List D} {vs ws : List V}, Rps K cl H ds vs → toFs ds = some ws → vs = ws ∧ vs.all flatV = true
  | [], vs, ws, h, e => by
    simp only [Rps] at h; simp only [toFs, Option.some.injEq] at e; subst h; subst e; exact ⟨rfl, rfl⟩
  | d :: ds, vs, ws, h, e => by
    simp only [Rps] at h
    obtain ⟨v, r, rfl, h1, h2⟩ := h
    simp only [toFs] at e
    split at e
    · rename_i p ps' e1 e2
      simp only [Option.some.injEq] at e
      subst e
      obtain ⟨q1, q2⟩ := toF_rp h1 e1
      obtain ⟨q3, q4⟩ := toFs_rp h2 e2
      subst q1; subst q3
      exact ⟨rfl, by simp [q2, q4]⟩
    · cases e

/-! ### operations on data -/
def P2 (K : PySem.W.Frag) (cl : Nat → Addr) (r : R2) (f : D → D → Option D) : Prop := ∀ (P : Addr → Prop) (H : Hp) (x y : V) (dx dy d : D) (Q : VK), (∀ a, P a → H a ≠ none) →
  Rp K cl (hide H P) dx x → Rp K cl (hide H P) dy y → f dx dy = some d → (∀ v H', Ex H H' → Rp K cl (hide H' P) d v → Q v H') → r x y H Q
def P1 (K : PySem.W.Frag) (cl : Nat → Addr) (r : V → Hp → VK → Prop) (f : D → Option D) : Prop := ∀ (P : Addr → Prop) (H : Hp) (x : V) (dx d : D) (Q : VK), (∀ a, P a → H a ≠ none) →
  Rp K cl (hide H P) dx x → f dx = some d → (∀ v H', Ex H H' → Rp K cl (hide H' P) d v → Q v H') → r x H Q
def PN (K : PySem.W.Frag) (cl : Nat → Addr) (r : List V → Hp → VK → Prop) (f : List D → Option D) : Prop := ∀ (P : Addr → Prop) (H : Hp) (xs : List V) (ds : List D) (d : D) (Q : VK), (∀ a, P a → H a ≠ none) →
  Rps K cl (hide H P) ds xs → f ds = some d → (∀ v H', Ex H H' → Rp K cl (hide H' P) d v → Q v H') → r xs H Q
theorem hide_seqT {K : PySem.W.Frag} {H : Hp} {P : Addr → Prop} {a : Addr} {vs : List V} (h : SqT K (hide H P) a vs) : SqT K H a vs := ex_t (hide_ex H P) h
theorem hide_at {H : Hp} {P : Addr → Prop} {a : Addr} {o : HO} (h : hide H P a = some o) : H a = some o := (hide_some.mp h).2
/-- a new thing at p is seen -/
theorem hide_seqL {K : PySem.W.Frag} {H : Hp} {P : Addr → Prop} {a : Addr} {vs : List V} (h : SqL K (hide H P) a vs) : SqL K H a vs := ex_l (hide_ex H P) h
theorem new_seen {H : Hp} {P : Addr → Prop} {p : Addr} {o : HO} (hP : ∀ a, P a → H a ≠ none) (hp : H p = none) : hide (upd H p o) P p = some o :=
  hide_some.mpr ⟨fun z => hP p z hp, upd_same⟩
theorem new_ex {H : Hp} {P : Addr → Prop} {p : Addr} {o : HO} (hp : H p = none) : Ex (hide H P) (hide (upd H p o) P) := hide_of_ex (Ex.new hp)

def opAdd : D → D → Option D
  | .int i, .int j => some (.int (i + j))
  | .str x, .str y => if x.length + y.length ≤ sizeLine then some (.str (x ++ y)) else none
  | .tup xs, .tup ys => if xs.length + ys.length ≤ sizeLine then some (.tup (xs ++ ys)) else none
  | .lst xs, .lst ys => if xs.length + ys.length ≤ sizeLine then some (.lst (xs ++ ys)) else none
  | _, _ => none
def opSub : D → D → Option D
  | .int i, .int j => some (.int (i - j))
  | _, _ => none
noncomputable def opMul : D → D → Option D
  | .int i, .int j => @ite _ (i.natAbs.log2 + j.natAbs.log2 < 1000000) (Classical.propDecidable _) (some (.int (i * j))) none
  | _, _ => none
noncomputable def opFdiv : D → D → Option D
  | .int i, .int j => @ite _ (j ≠ 0 ∧ j.natAbs.log2 < 9000) (Classical.propDecidable _) (some (.int (i.fdiv j))) none
  | _, _ => none
def opMod : D → D → Option D
  | .int i, .int j => if j ≠ 0 then some (.int (i.fmod j)) else none
  | _, _ => none
noncomputable def opPow : D → D → Option D
  | .int i, .int j => @ite _ (0 ≤ j ∧ (Builtin.Int.intBits i : Int) * j ≤ 134217728) (Classical.propDecidable _) (some (.int (i ^ j.toNat))) none
  | _, _ => none
def opLt : D → D → Option D
  | .int i, .int j => some (.bl (decide (i < j)))
  | _, _ => none
def opLe : D → D → Option D
  | .int i, .int j => some (.bl (decide (i ≤ j)))
  | _, _ => none
def opGt : D → D → Option D
  | .int i, .int j => some (.bl (decide (j < i)))
  | _, _ => none
def opGe : D → D → Option D
  | .int i, .int j => some (.bl (decide (j ≤ i)))
  | _, _ => none
def eqD (a b : D) : Option Bool := match a, b with
  | .str x, .str y => some (decide (x = y))
  | a, b => match toP a, toP b with
    | some p, some q => if SeqAt.shaped p = true ∧ SeqAt.shaped q = true then some (PyData.eqv p q) else none
    | _, _ => none
def opEq (a b : D) : Option D := (eqD a b).map D.bl
def opNe (a b : D) : Option D := (eqD a b).map fun c => D.bl (!c)
def isNon : D → Bool
  | .non => true
  | _ => false
def opIs : D → D → Option D
  | a, .non => some (.bl (isNon a))
  | _, _ => none
def opIsNot : D → D → Option D
  | a, .non => some (.bl (!isNon a))
  | _, _ => none
def inD (x : D) (y : D) : Option Bool := match y with
  | .str z => match x with
    | .str w => match w.cps.toList with
      | [c] => some (decide (c ∈ z.cps.toList))
      | _ => none
    | _ => none
  | .tup ys => match toF x, toFs ys with
    | some v, some vs => some (inV v vs)
    | _, _ => none
  | .lst ys => match toF x, toFs ys with
    | some v, some vs => some (inV v vs)
    | _, _ => match toP x, toPs ys with
      | some p, some ps => if SeqAt.shaped p = true ∧ SeqAt.shaped (.list ps) = true then some (ps.any fun z => PyData.eqv z p) else none
      | _, _ => none
  | _ => none
def opIn (x y : D) : Option D := (inD x y).map D.bl
def opNotIn (x y : D) : Option D := (inD x y).map fun c => D.bl (!c)

theorem rp_non {K : PySem.W.Frag} {cl : Nat → Addr} {H : Hp} {d : D} {v : V} (h : Rp K cl H d v) : decide (v = .non) = isNon d := by
  cases d <;> simp only [Rp] at h
  case non => subst h; rfl
  case bl => subst h; rfl
  case int => subst h; rfl
  case str => subst h; rfl
  case ty => subst h; rfl
  case cls => subst h; rfl
  case scr => obtain ⟨a, rfl, _⟩ := h; rfl
  all_goals
    first
    | (obtain ⟨a, vs, rfl, _⟩ := h; rfl)
    | (obtain ⟨a, dx, vs, rfl, _⟩ := h; rfl)

section
variable {X : Cx}
theorem op_fdivG : OpR X (binaryOp .FloorDiv) (rI (fun _ j => j ≠ 0 ∧ j.natAbs.log2 < 9000) fun i j => .int (i.fdiv j)) :=
  opI fun i j _ _ _ _ _ hc q => PyProof.Rows.floordiv_int hc.1 q (.inl (PyProof.noPylong_of_log2 hc.2))
theorem op_powG : OpR X (binaryOp .Pow) (rI (fun i j => 0 ≤ j ∧ (Builtin.Int.intBits i : Int) * j ≤ 2 ^ 27) fun i j => .int (i ^ j.toNat)) :=
  opI fun i j _ _ _ _ _ hc q => PyProof.Rows.pow_int hc.1 hc.2 q
/-- a rule and what it does to data -/
structure Op2 (X : Cx) (cl : Nat → Addr) (f : Value → Value → Sem Value) (g : D → D → Option D) : Prop where
  ex : ∃ r, OpR X f r ∧ P2 X.K cl r g
variable {cl : Nat → Addr}
theorem o_add : Op2 X cl (binaryOp .Add) opAdd := by
  refine ⟨_, (op_add.or (op_add_str.or (op_catA.or op_cat))), fun P H x y dx dy d Q hP hx hy e q => ?_⟩
  unfold opAdd at e
  split at e
  · simp only [Rp] at hx hy
    subst hx; subst hy
    cases e
    exact .inl ⟨_, _, rfl, rfl, q _ H (Ex.refl H) (by simp only [Rp])⟩
  · simp only [Rp] at hx hy
    subst hx; subst hy
    split at e
    · rename_i hz
      cases e
      exact .inr (.inl ⟨_, _, rfl, rfl, hz, q _ H (Ex.refl H) (by simp only [Rp])⟩)
    · cases e
  · rename_i ds es
    have hx' := hx
    have hy' := hy
    simp only [Rp] at hx hy
    obtain ⟨a, vs, rfl, h1, h2⟩ := hx
    obtain ⟨b, ws, rfl, h3, h4⟩ := hy
    split at e
    · rename_i hz
      cases e
      have l1 := h2.length
      have l2 := h4.length
      refine .inr (.inr (.inl ⟨a, b, vs, ws, rfl, rfl, hide_seqT h1, hide_seqT h3, by omega, fun e0 => ?_, fun e0 e1 => ?_, fun e0 e1 p hp => ?_⟩))
      · subst e0
        refine q _ H (Ex.refl H) ?_
        have e2 : ds = [] := List.length_eq_zero_iff.mp l1
        subst e2
        exact hy'
      · subst e1
        refine q _ H (Ex.refl H) ?_
        have e2 : es = [] := List.length_eq_zero_iff.mp l2
        subst e2
        rw [List.append_nil]
        exact hx'
      · refine q _ _ (Ex.new hp) ?_
        simp only [Rp]
        exact ⟨p, vs ++ ws, rfl, .inl (.inl (new_seen hP hp)), Rps.append (Rps.ex (new_ex hp) _ _ h2) (Rps.ex (new_ex hp) _ _ h4)⟩
    · cases e
  · simp only [Rp] at hx hy
    obtain ⟨a, vs, rfl, h1, h2⟩ := hx
    obtain ⟨b, ws, rfl, h3, h4⟩ := hy
    split at e
    · rename_i hz
      cases e
      have l1 := h2.length
      have l2 := h4.length
      refine .inr (.inr (.inr ⟨a, b, vs, ws, rfl, rfl, hide_at h1, hide_at h3, by omega, fun p hp => ?_⟩))
      refine q _ _ (Ex.new hp) ?_
      simp only [Rp]
      exact ⟨p, vs ++ ws, rfl, new_seen hP hp, Rps.append (Rps.ex (new_ex hp) _ _ h2) (Rps.ex (new_ex hp) _ _ h4)⟩
    · cases e
  · cases e
theorem o_i {f : Value → Value → Sem Value} {C : Int → Int → Prop} {g : Int → Int → V} {k : D → D → Option D} (h : OpR X f (rI C g))
    (hk : ∀ dx dy d, k dx dy = some d → ∃ i j, dx = .int i ∧ dy = .int j ∧ C i j ∧ ∀ H, Rp X.K cl H d (g i j)) : Op2 X cl f k := by
  refine ⟨_, h, fun P H x y dx dy d Q hP hx hy e q => ?_⟩
  obtain ⟨i, j, rfl, rfl, hc, hr⟩ := hk dx dy d e
  simp only [Rp] at hx hy
  subst hx; subst hy
  exact ⟨i, j, rfl, rfl, hc, q _ H (Ex.refl H) (hr _)⟩
theorem o_i0 {f : Value → Value → Sem Value} {g : Int → Int → V} {k : D → D → Option D} (h : OpR X f (rI0 g))
    (hk : ∀ dx dy d, k dx dy = some d → ∃ i j, dx = .int i ∧ dy = .int j ∧ ∀ H, Rp X.K cl H d (g i j)) : Op2 X cl f k := by
  refine ⟨_, h, fun P H x y dx dy d Q hP hx hy e q => ?_⟩
  obtain ⟨i, j, rfl, rfl, hr⟩ := hk dx dy d e
  simp only [Rp] at hx hy
  subst hx; subst hy
  exact ⟨i, j, rfl, rfl, q _ H (Ex.refl H) (hr _)⟩
theorem o_sub : Op2 X cl (binaryOp .Sub) opSub := o_i0 op_sub fun dx dy d e => by
  cases dx <;> cases dy <;> simp only [opSub] at e <;> try (cases e; done)
  cases e; exact ⟨_, _, rfl, rfl, fun H => by simp only [Rp]⟩
theorem o_mul : Op2 X cl (binaryOp .Mult) opMul := o_i op_mulW fun dx dy d e => by
  cases dx <;> cases dy <;> simp only [opMul] at e <;> try (cases e; done)
  split at e
  · rename_i hz; cases e; exact ⟨_, _, rfl, rfl, hz, fun H => by simp only [Rp]⟩
  · cases e
theorem o_fdiv : Op2 X cl (binaryOp .FloorDiv) opFdiv := o_i op_fdivG fun dx dy d e => by
  cases dx <;> cases dy <;> simp only [opFdiv] at e <;> try (cases e; done)
  split at e
  · rename_i hz; cases e; exact ⟨_, _, rfl, rfl, hz, fun H => by simp only [Rp]⟩
  · cases e
theorem o_mod : Op2 X cl (binaryOp .Mod) opMod := o_i op_modN fun dx dy d e => by
  cases dx <;> cases dy <;> simp only [opMod] at e <;> try (cases e; done)
  split at e
  · rename_i hz; cases e; exact ⟨_, _, rfl, rfl, hz, fun H => by simp only [Rp]⟩
  · cases e
theorem o_pow : Op2 X cl (binaryOp .Pow) opPow := o_i op_powG fun dx dy d e => by
  cases dx <;> cases dy <;> simp only [opPow] at e <;> try (cases e; done)
  split at e
  · rename_i hz; cases e; exact ⟨_, _, rfl, rfl, hz, fun H => by simp only [Rp]⟩
  · cases e
theorem o_lt : Op2 X cl (compareOp .Lt) opLt := o_i0 op_lt fun dx dy d e => by
  cases dx <;> cases dy <;> simp only [opLt] at e <;> try (cases e; done)
  cases e; exact ⟨_, _, rfl, rfl, fun H => by simp only [Rp]⟩
theorem o_le : Op2 X cl (compareOp .LtE) opLe := o_i0 op_le fun dx dy d e => by
  cases dx <;> cases dy <;> simp only [opLe] at e <;> try (cases e; done)
  cases e; exact ⟨_, _, rfl, rfl, fun H => by simp only [Rp]⟩
theorem o_gt : Op2 X cl (compareOp .Gt) opGt := o_i0 op_gt fun dx dy d e => by
  cases dx <;> cases dy <;> simp only [opGt] at e <;> try (cases e; done)
  cases e; exact ⟨_, _, rfl, rfl, fun H => by simp only [Rp]⟩
theorem o_ge : Op2 X cl (compareOp .GtE) opGe := o_i0 op_ge fun dx dy d e => by
  cases dx <;> cases dy <;> simp only [opGe] at e <;> try (cases e; done)
  cases e; exact ⟨_, _, rfl, rfl, fun H => by simp only [Rp]⟩
theorem eqD_str {x y : Str} {c : Bool} (h : eqD (.str x) (.str y) = some c) : c = decide (x = y) := by
  simp only [eqD, Option.some.injEq] at h; exact h.symm
theorem eqD_data {a b : D} {c : Bool} (h : eqD a b = some c) : (∃ x y, a = .str x ∧ b = .str y ∧ c = decide (x = y)) ∨ ∃ p q, toP a = some p ∧ toP b = some q ∧ SeqAt.shaped p = true ∧ SeqAt.shaped q = true ∧ c = PyData.eqv p q := by
  unfold eqD at h
  split at h
  · cases h; exact .inl ⟨_, _, rfl, rfl, rfl⟩
  · split at h
    · rename_i p q e1 e2
      split at h
      · rename_i hz
        cases h
        exact .inr ⟨p, q, e1, e2, hz.1, hz.2, rfl⟩
      · cases h
    · cases h
theorem o_eq (hu : X.A.units + 64 < cLine) : Op2 X cl (compareOp .Eq) opEq := by
  refine ⟨_, (op_eqD hu).or op_eq, fun P H x y dx dy d Q hP hx hy e q => ?_⟩
  obtain ⟨c, e1, rfl⟩ := Option.map_eq_some_iff.mp e
  rcases eqD_data e1 with ⟨s, t, rfl, rfl, rfl⟩ | ⟨p, r, e2, e3, s1, s2, rfl⟩
  · simp only [Rp] at hx hy
    subst hx; subst hy
    refine .inr ⟨rfl, ?_⟩
    rw [show decide (V.str s = V.str t) = decide (s = t) by simp]
    exact q _ H (Ex.refl H) (by simp only [Rp])
  · exact .inl ⟨p, r, dp_of _ _ _ (Rp.ex (hide_ex H P) _ _ hx) e2, dp_of _ _ _ (Rp.ex (hide_ex H P) _ _ hy) e3, s1, s2, q _ H (Ex.refl H) (by simp only [Rp])⟩
theorem o_ne (hu : X.A.units + 64 < cLine) : Op2 X cl (compareOp .NotEq) opNe := by
  refine ⟨_, (op_neD hu).or op_ne, fun P H x y dx dy d Q hP hx hy e q => ?_⟩
  obtain ⟨c, e1, rfl⟩ := Option.map_eq_some_iff.mp e
  rcases eqD_data e1 with ⟨s, t, rfl, rfl, rfl⟩ | ⟨p, r, e2, e3, s1, s2, rfl⟩
  · simp only [Rp] at hx hy
    subst hx; subst hy
    refine .inr ⟨rfl, ?_⟩
    rw [show decide (V.str s = V.str t) = decide (s = t) by simp]
    exact q _ H (Ex.refl H) (by simp only [Rp])
  · exact .inl ⟨p, r, dp_of _ _ _ (Rp.ex (hide_ex H P) _ _ hx) e2, dp_of _ _ _ (Rp.ex (hide_ex H P) _ _ hy) e3, s1, s2, q _ H (Ex.refl H) (by simp only [Rp])⟩
theorem o_is : Op2 X cl (compareOp .Is) opIs := by
  refine ⟨_, op_isN, fun P H x y dx dy d Q hP hx hy e q => ?_⟩
  cases dy <;> simp only [opIs] at e <;> try (cases e; done)
  cases e
  simp only [Rp] at hy
  refine ⟨hy, ?_⟩
  rw [rp_non hx]
  exact q _ H (Ex.refl H) (by simp only [Rp])
theorem o_isnot : Op2 X cl (compareOp .IsNot) opIsNot := by
  refine ⟨_, op_notN, fun P H x y dx dy d Q hP hx hy e q => ?_⟩
  cases dy <;> simp only [opIsNot] at e <;> try (cases e; done)
  cases e
  simp only [Rp] at hy
  refine ⟨hy, ?_⟩
  rw [rp_non hx]
  exact q _ H (Ex.refl H) (by simp only [Rp])
theorem inD_cases {K : PySem.W.Frag} {H : Hp} {P : Addr → Prop} {x y : V} {dx dy : D} {c : Bool} (hx : Rp K cl (hide H P) dx x) (hy : Rp K cl (hide H P) dy y) (e : inD dx dy = some c) :
    (∃ (w : Nat) (z : Str), x = .str ⟨#[w]⟩ ∧ y = .str z ∧ c = decide (w ∈ z.cps.toList)) ∨
    (∃ p xs, y = .ref p ∧ (SqL K H p xs ∨ SqT K H p xs) ∧ flatV x = true ∧ xs.all flatV = true ∧ c = inV x xs) ∨
    (∃ d ds, Dp K H x d ∧ Dp K H y (.list ds) ∧ SeqAt.shaped d = true ∧ SeqAt.shaped (.list ds) = true ∧ c = ds.any fun z => PyData.eqv z d) := by
  unfold inD at e
  split at e
  · split at e
    · split at e
      · rename_i w _ c0 ew
        cases e
        simp only [Rp] at hx hy
        subst hx; subst hy
        refine .inl ⟨c0, _, ?_, rfl, rfl⟩
        have : w = ⟨#[c0]⟩ := by
          cases w with
          | mk cps =>
            have : cps = #[c0] := Array.toList_inj.mp ew
            rw [this]
        rw [this]
      · cases e
    · cases e
  · split at e
    · rename_i ys v vs e1 e2
      cases e
      simp only [Rp] at hy
      obtain ⟨a, ws, rfl, h1, h2⟩ := hy
      obtain ⟨q1, q2⟩ := toF_rp hx e1
      obtain ⟨q3, q4⟩ := toFs_rp h2 e2
      subst q1; subst q3
      exact .inr (.inl ⟨a, _, rfl, .inr (hide_seqT h1), q2, q4, rfl⟩)
    · cases e
  · split at e
    · rename_i ys v vs e1 e2
      cases e
      simp only [Rp] at hy
      obtain ⟨a, ws, rfl, h1, h2⟩ := hy
      obtain ⟨q1, q2⟩ := toF_rp hx e1
      obtain ⟨q3, q4⟩ := toFs_rp h2 e2
      subst q1; subst q3
      exact .inr (.inl ⟨a, _, rfl, .inl (SqL.of (hide_at h1)), q2, q4, rfl⟩)
    · split at e
      · rename_i p ps e1 e2
        split at e
        · rename_i hz
          cases e
          refine .inr (.inr ⟨p, ps, dp_of _ _ _ (Rp.ex (hide_ex H P) _ _ hx) e1, dp_of _ _ _ (Rp.ex (hide_ex H P) _ _ hy) ?_, hz.1, hz.2, rfl⟩)
          simp only [toP, e2, Option.map_some]
        · cases e
      · cases e
  · cases e
theorem o_in (hu : X.A.units + 65 < cLine) : Op2 X cl (compareOp .In) opIn := by
  refine ⟨_, op_in_sign.or (op_in_seq.or (op_inD hu)), fun P H x y dx dy d Q hP hx hy e q => ?_⟩
  obtain ⟨c, e1, rfl⟩ := Option.map_eq_some_iff.mp e
  have q' := q (.bl c) H (Ex.refl H) (by simp only [Rp])
  rcases inD_cases hx hy e1 with ⟨w, z, h1, h2, rfl⟩ | ⟨p, xs, h1, h2, h3, h4, rfl⟩ | ⟨d, ds, h1, h2, h3, h4, rfl⟩
  · exact .inl ⟨w, z, h1, h2, q'⟩
  · exact .inr (.inl ⟨p, xs, h1, h2, h3, h4, q'⟩)
  · exact .inr (.inr ⟨d, ds, h1, h2, h3, h4, q'⟩)
theorem o_notin (hu : X.A.units + 65 < cLine) : Op2 X cl (compareOp .NotIn) opNotIn := by
  refine ⟨_, op_notIn_sign.or (op_notIn_seq.or (op_notInD hu)), fun P H x y dx dy d Q hP hx hy e q => ?_⟩
  obtain ⟨c, e1, rfl⟩ := Option.map_eq_some_iff.mp e
  have q' := q (.bl (!c)) H (Ex.refl H) (by simp only [Rp])
  rcases inD_cases hx hy e1 with ⟨w, z, h1, h2, rfl⟩ | ⟨p, xs, h1, h2, h3, h4, rfl⟩ | ⟨d, ds, h1, h2, h3, h4, rfl⟩
  · exact .inl ⟨w, z, h1, h2, q'⟩
  · exact .inr (.inl ⟨p, xs, h1, h2, h3, h4, q'⟩)
  · exact .inr (.inr ⟨d, ds, h1, h2, h3, h4, q'⟩)
end

/-! ### expressions -/
def mVar (i : Nat) : ME := fun ρ => match ρ[i]? with
  | some (.val d) => .ok (d, ρ)
  | _ => .bad
def mC (d : D) : ME := fun ρ => .ok (d, ρ)
def mBin (f : D → D → Option D) (ma mb : ME) : ME := fun ρ => (ma ρ).bind fun x => (mb x.2).bind fun y => (lft (f x.1 y.1)).bind fun d => .ok (d, y.2)
def mUn (f : D → Option D) (ma : ME) : ME := fun ρ => (ma ρ).bind fun x => (lft (f x.1)).bind fun d => .ok (d, x.2)
def asBl : D → Option Bool
  | .bl b => some b
  | _ => none
def mTest (ma : ME) : MT := fun ρ => (ma ρ).bind fun x => (lft (asBl x.1)).bind fun b => .ok (b, x.2)
def mAnd (ma mb : ME) : ME := fun ρ => (ma ρ).bind fun x => (lft (asBl x.1)).bind fun b => if b = true then mb x.2 else .ok (.bl false, x.2)
def mOr (ma mb : ME) : ME := fun ρ => (ma ρ).bind fun x => (lft (asBl x.1)).bind fun b => if b = true then .ok (.bl true, x.2) else mb x.2
def mNot (ma : ME) : ME := fun ρ => (ma ρ).bind fun x => (lft (asBl x.1)).bind fun b => .ok (.bl (!b), x.2)
def mIf (mt : MT) (ma mb : ME) : ME := fun ρ => (mt ρ).bind fun x => if x.1 = true then ma x.2 else mb x.2
def mAndT (ma mb : MT) : MT := fun ρ => (ma ρ).bind fun x => if x.1 = true then mb x.2 else .ok (false, x.2)
def mOrT (ma mb : MT) : MT := fun ρ => (ma ρ).bind fun x => if x.1 = true then .ok (true, x.2) else mb x.2
def mNotT (ma : MT) : MT := fun ρ => (ma ρ).bind fun x => .ok (!x.1, x.2)
def mNil : MA := fun ρ => .ok ([], ρ)
def mCons (ma : ME) (mr : MA) : MA := fun ρ => (ma ρ).bind fun x => (mr x.2).bind fun y => .ok (x.1 :: y.1, y.2)
def mTup (ma : MA) : ME := fun ρ => (ma ρ).bind fun x => if x.1.length ≤ sizeLine then .ok (.tup x.1, x.2) else .bad
def mLstL (ma : MA) : ML := fun ρ => (ma ρ).bind fun x => if x.1.length ≤ sizeLine then .ok (.lst x.1, x.2) else .bad
def mOfL (ml : ML) : ME := fun ρ => (ml ρ).bind fun x => .ok (x.1.toD, x.2)
def mChain (f g : D → D → Option D) (ma mb mc : ME) : ME := fun ρ => (ma ρ).bind fun x => (mb x.2).bind fun y => (lft (f x.1 y.1)).bind fun d => (lft (asBl d)).bind fun b =>
  if b = true then (mc y.2).bind fun z => (lft (g y.1 z.1)).bind fun d => .ok (d, z.2) else .ok (.bl false, y.2)

section
variable {X : Cx} {cl : Nat → Addr} {Z : ZK} {a b c e : Expr} {ma mb mc : ME} {pos : Pos} {es : List Expr}
theorem asBl_some {d : D} {b : Bool} (h : asBl d = some b) : d = .bl b := by
  cases d <;> simp only [asBl] at h <;> try (cases h; done)
  cases h; rfl
theorem Gd.lft {α β : Type} {o : Option α} {f : α → Res β} {S : β → Prop} {Zc : Str → D → Env → Prop} (h : Gd ((lft o).bind f) S Zc) : ∃ a, o = some a ∧ Gd (f a) S Zc := by
  cases o with
  | none => exact h.elim
  | some a => exact ⟨a, rfl, h⟩
theorem de_var (i : Nat) {x : Str} (hN : X.N[i]? = some x) (hv : Vis X.env.scope x) (hd : (x == ("__debug__" : Str)) = false := by decide) (hcd : (x == ("__classdict__" : Str)) = false := by decide) :
    PE X (.Name x pos) (wE X.K cl Z (mVar i)) := PE.wk (pe_var hN hv hd hcd) fun σ H Q ⟨ρ, O, r, h⟩ => by
  unfold mVar at h
  split at h
  · rename_i d e
    obtain ⟨v, h1, h2⟩ := r.at_ i _ e
    exact ⟨v, h1, h v H ⟨Po.refl r, fun _ => rfl, h2⟩⟩
  · exact h.elim
theorem de_c {v : V} {d : D} (h : PE X e (tC v)) (hd : ∀ H, Rp X.K cl H d v) : PE X e (wE X.K cl Z (mC d)) := PE.wk h fun σ H Q ⟨ρ, O, r, q⟩ =>
  q v H ⟨Po.refl r, fun _ => rfl, hd _⟩
theorem de_int {i : Int} {j pos} : PE X (.Constant (.int i) j pos) (wE X.K cl Z (mC (.int i))) := de_c pe_int fun H => by simp only [Rp]
theorem de_bl {i : Bool} {j pos} : PE X (.Constant (.bool i) j pos) (wE X.K cl Z (mC (.bl i))) := de_c pe_bl fun H => by simp only [Rp]
theorem de_non {j pos} : PE X (.Constant .none j pos) (wE X.K cl Z (mC .non)) := de_c pe_non fun H => by simp only [Rp]
theorem de_str {x : Str} {j pos} : PE X (.Constant (.str x) j pos) (wE X.K cl Z (mC (.str x))) := de_c pe_str fun H => by simp only [Rp]

/-- two values in a row -/
theorem w2 {β : Type} {f : D × Env → D × Env → Res β} {S : β → Prop} {σ : St} {H : Hp} {R : V → V → Hp → Prop} (z : ZOk X.K cl Z) {ρ : Env} {O : Addr → Prop} (r : Rel X.K cl O ρ σ H)
    (h : Gd ((ma ρ).bind fun x => (mb x.2).bind fun y => f x y) S (Z O ρ σ H))
    (k : ∀ d1 d2 ρ1 ρ2 v w H2, PoT X.K cl O ρ σ H ρ2 H2 → Rp X.K cl (hide H2 (hid O ρ2 σ)) d1 v → Rp X.K cl (hide H2 (hid O ρ2 σ)) d2 w → Gd (f (d1, ρ1) (d2, ρ2)) S (Z O ρ2 σ H2) → R v w H2) :
    wE X.K cl Z ma σ H fun v H1 => wE X.K cl Z mb σ H1 fun w H2 => R v w H2 :=
  wE_then z r h fun d1 ρ1 v H1 p1 g1 => wE_then z p1.po.rel g1 fun d2 ρ2 w H2 p2 g2 =>
    k d1 d2 ρ1 ρ2 v w H2 (p1.seq p2).poT (Rp.ex (p2.po.ex p1.po.rel) _ _ p1.val) p2.val g2
theorem de_op2 {op : R2} {f : D → D → Option D} {te : TE} (z : ZOk X.K cl Z) (h2 : P2 X.K cl op f) (h : PE X e (tOp op (wE X.K cl Z ma) (wE X.K cl Z mb))) : PE X e (wE X.K cl Z (mBin f ma mb)) := h.wk fun σ H Q ⟨ρ, O, r, g⟩ =>
  w2 z r g fun d1 d2 ρ1 ρ2 v w H2 p hv hw g2 => by
    obtain ⟨d, e, g3⟩ := Gd.lft g2
    exact h2 (hid O ρ2 σ) H2 v w d1 d2 d Q (fun a ha => p.po.rel.hid_some ha) hv hw e fun u H' ex hu => g3 u H' (p.lays ex hu)
theorem de_bin {op : Operator} {f : D → D → Option D} (z : ZOk X.K cl Z) (o : Op2 X cl (binaryOp op) f) (ha : PE X a (wE X.K cl Z ma)) (hb : PE X b (wE X.K cl Z mb)) : PE X (.BinOp a op b pos) (wE X.K cl Z (mBin f ma mb)) := by
  obtain ⟨r, h1, h2⟩ := o.ex
  exact de_op2 (te := tC .non) z h2 (pe_op h1 ha hb)
theorem de_cmp {op : CmpOp} {f : D → D → Option D} (z : ZOk X.K cl Z) (o : Op2 X cl (compareOp op) f) (ha : PE X a (wE X.K cl Z ma)) (hb : PE X b (wE X.K cl Z mb)) (hm : behindInMarks op b = false) : PE X (.Compare a [op] [b] pos) (wE X.K cl Z (mBin f ma mb)) := by
  obtain ⟨r, h1, h2⟩ := o.ex
  exact de_op2 (te := tC .non) z h2 (pe_cmpR h1 ha hb hm)
/-- the value of a data bool -/
theorem rp_bl {H : Hp} {b : Bool} {v : V} (h : Rp X.K cl H (.bl b) v) : v = .bl b := by simp only [Rp] at h; exact h
theorem wE_test {σ : St} {H : Hp} {Q : Bool → Hp → Prop} (z : ZOk X.K cl Z) (h : wT X.K cl Z (mTest ma) σ H Q) : wE X.K cl Z ma σ H fun x H1 => ∃ k, x = .bl k ∧ Q k H1 := by
  obtain ⟨ρ, O, r, g⟩ := h
  refine wE_then z r g fun d ρ1 v H1 p g1 => ?_
  obtain ⟨k, e, g2⟩ := Gd.lft g1
  have := asBl_some e
  simp only at this
  subst this
  exact ⟨k, rp_bl p.val, g2 H1 p.poT⟩
theorem dt_cmp {op : CmpOp} {f : D → D → Option D} (z : ZOk X.K cl Z) (o : Op2 X cl (compareOp op) f) (ha : PE X a (wE X.K cl Z ma)) (hb : PE X b (wE X.K cl Z mb)) (hm : behindInMarks op b = false) : PT X (.Compare a [op] [b] pos) (wT X.K cl Z (mTest (mBin f ma mb))) := by
  obtain ⟨r, h1, h2⟩ := o.ex
  refine (pt_cmpR h1 ha hb hm).wk fun σ H Q q => ?_
  have q' := wE_test z q
  obtain ⟨ρ, O, rr, g⟩ := q'
  exact w2 z rr g fun d1 d2 ρ1 ρ2 v w H2 p hv hw g2 => by
    obtain ⟨d, e, g3⟩ := Gd.lft g2
    exact h2 (hid O ρ2 σ) H2 v w d1 d2 d _ (fun a ha => p.po.rel.hid_some ha) hv hw e fun u H' ex hu => g3 u H' (p.lays ex hu)
theorem dt_val (z : ZOk X.K cl Z) (h : PE X e (wE X.K cl Z ma)) (he : ∀ whole, isTrue e X.env whole = (do let v ← whole; standAt e.pos; holding [v] (truthy v)) := by intro _; rfl) : PT X e (wT X.K cl Z (mTest ma)) :=
  (pt_val h he).wk fun σ H Q q => wE_test z q
theorem de_chain {op op' : CmpOp} {f g : D → D → Option D} (z : ZOk X.K cl Z) (o : Op2 X cl (compareOp op) f) (o' : Op2 X cl (compareOp op') g) (ha : PE X a (wE X.K cl Z ma)) (hb : PE X b (wE X.K cl Z mb)) (hc : PE X c (wE X.K cl Z mc))
    (hm : lastMarks [op, op'] [b, c] = false := by with_unfolding_all rfl) : PE X (.Compare a [op, op'] [b, c] pos) (wE X.K cl Z (mChain f g ma mb mc)) := by
  obtain ⟨r, h1, h2⟩ := o.ex
  obtain ⟨r', h1', h2'⟩ := o'.ex
  refine (pe_chain h1 h1' ha hb hc hm).wk fun σ H Q ⟨ρ, O, rr, q⟩ => w2 z rr q fun d1 d2 ρ1 ρ2 v w H2 p hv hw g2 => ?_
  obtain ⟨d, e, g3⟩ := Gd.lft g2
  obtain ⟨k, e2, g4⟩ := Gd.lft g3
  have := asBl_some e2
  subst this
  refine h2 (hid O ρ2 σ) H2 v w d1 d2 _ _ (fun a ha => p.po.rel.hid_some ha) hv hw e fun u H' ex hu => ⟨k, rp_bl hu, ?_⟩
  have p' := p.lays ex hu
  have hw' := Rp.ex (hide_of_ex (P := hid O ρ2 σ) ex) _ _ hw
  have g5 := g4.mono (fun _ z => z) fun c d ρ3 w => z.mono p.po.rel (Po.of_ex p.po.rel ex) w
  cases k with
  | false => exact g5 _ _ ⟨p'.po, p'.sh, by simp only [Rp]⟩
  | true =>
    refine wE_then z p'.po.rel g5 fun d3 ρ3 t H3 p3 g6 => ?_
    obtain ⟨d4, e4, g7⟩ := Gd.lft g6
    exact h2' (hid O ρ3 σ) H3 w t d2 d3 d4 Q (fun a ha => p3.po.rel.hid_some ha) (Rp.ex (p3.po.ex p'.po.rel) _ _ hw') p3.val e4 fun u' H4 ex' hu' => g7 u' H4 ((p'.poT.seq p3.poT).lays ex' hu')
theorem dt_chain {op op' : CmpOp} {f g : D → D → Option D} (z : ZOk X.K cl Z) (o : Op2 X cl (compareOp op) f) (o' : Op2 X cl (compareOp op') g) (ha : PE X a (wE X.K cl Z ma)) (hb : PE X b (wE X.K cl Z mb)) (hc : PE X c (wE X.K cl Z mc))
    (hm : lastMarks [op, op'] [b, c] = false := by with_unfolding_all rfl) : PT X (.Compare a [op, op'] [b, c] pos) (wT X.K cl Z (mTest (mChain f g ma mb mc))) := by
  obtain ⟨r, h1, h2⟩ := o.ex
  obtain ⟨r', h1', h2'⟩ := o'.ex
  refine (pt_chain h1 h1' ha hb hc hm).wk fun σ H Q q => ?_
  obtain ⟨ρ, O, rr, q⟩ := wE_test z q
  refine w2 z rr q fun d1 d2 ρ1 ρ2 v w H2 p hv hw g2 => ?_
  obtain ⟨d, e, g3⟩ := Gd.lft g2
  obtain ⟨k, e2, g4⟩ := Gd.lft g3
  have := asBl_some e2
  subst this
  refine h2 (hid O ρ2 σ) H2 v w d1 d2 _ _ (fun a ha => p.po.rel.hid_some ha) hv hw e fun u H' ex hu => ⟨k, rp_bl hu, ?_⟩
  have p' := p.lays ex hu
  have hw' := Rp.ex (hide_of_ex (P := hid O ρ2 σ) ex) _ _ hw
  have g5 := g4.mono (fun _ z => z) fun c d ρ3 w => z.mono p.po.rel (Po.of_ex p.po.rel ex) w
  cases k with
  | false => exact g5 _ _ ⟨p'.po, p'.sh, by simp only [Rp]⟩
  | true =>
    refine wE_then z p'.po.rel g5 fun d3 ρ3 t H3 p3 g6 => ?_
    obtain ⟨d4, e4, g7⟩ := Gd.lft g6
    exact h2' (hid O ρ3 σ) H3 w t d2 d3 d4 _ (fun a ha => p3.po.rel.hid_some ha) (Rp.ex (p3.po.ex p'.po.rel) _ _ hw') p3.val e4 fun u' H4 ex' hu' => g7 u' H4 ((p'.poT.seq p3.poT).lays ex' hu')

/-! ### and, or, not, if -/
theorem PoE.lift {O : Addr → Prop} {ρ ρ1 : Env} {σ : St} {H H1 : Hp} {S : D × Env → Prop} {r : Res (D × Env)} {Q : VK} (p : PoT X.K cl O ρ σ H ρ1 H1) (g : Gd r (fun x => ∀ v H', PoE X.K cl O ρ σ H x.1 x.2 v H' → Q v H') (Z O ρ1 σ H1)) :
    Gd r (fun x => ∀ v H', PoE X.K cl O ρ1 σ H1 x.1 x.2 v H' → Q v H') (Z O ρ1 σ H1) :=
  g.mono (fun x q v H' p2 => q v H' ⟨p.po.trans p2.po, fun i => (p.sh i).trans (p2.sh i), p2.val⟩) fun _ _ _ w => w
theorem PoT.lift {O : Addr → Prop} {ρ ρ1 : Env} {σ : St} {H H1 : Hp} {r : Res (Bool × Env)} {Q : Bool → Hp → Prop} (p : PoT X.K cl O ρ σ H ρ1 H1) (g : Gd r (fun x => ∀ H', PoT X.K cl O ρ σ H x.2 H' → Q x.1 H') (Z O ρ1 σ H1)) :
    Gd r (fun x => ∀ H', PoT X.K cl O ρ1 σ H1 x.2 H' → Q x.1 H') (Z O ρ1 σ H1) :=
  g.mono (fun x q H' p2 => q H' (p.seq p2)) fun _ _ _ w => w
theorem de_and {rest : List Expr} (z : ZOk X.K cl Z) (ha : PE X a (wE X.K cl Z ma)) (hb : PE X (.BoolOp .And (b :: rest) pos) (wE X.K cl Z mb)) : PE X (.BoolOp .And (a :: b :: rest) pos) (wE X.K cl Z (mAnd ma mb)) :=
  (pe_and ha hb).wk fun σ H Q ⟨ρ, O, r, g⟩ => wE_then z r g fun d ρ1 v H1 p g1 => by
    obtain ⟨k, e, g2⟩ := Gd.lft g1
    have := asBl_some e
    simp only at this
    subst this
    refine ⟨k, rp_bl p.val, ?_⟩
    cases k with
    | true => exact ⟨ρ1, O, p.po.rel, PoE.lift (S := fun _ => True) p.poT g2⟩
    | false => exact g2 _ _ ⟨p.po, p.sh, by simp only [Rp]⟩
theorem de_or {rest : List Expr} (z : ZOk X.K cl Z) (ha : PE X a (wE X.K cl Z ma)) (hb : PE X (.BoolOp .Or (b :: rest) pos) (wE X.K cl Z mb)) : PE X (.BoolOp .Or (a :: b :: rest) pos) (wE X.K cl Z (mOr ma mb)) :=
  (pe_or ha hb).wk fun σ H Q ⟨ρ, O, r, g⟩ => wE_then z r g fun d ρ1 v H1 p g1 => by
    obtain ⟨k, e, g2⟩ := Gd.lft g1
    have := asBl_some e
    simp only at this
    subst this
    refine ⟨k, rp_bl p.val, ?_⟩
    cases k with
    | false => exact ⟨ρ1, O, p.po.rel, PoE.lift (S := fun _ => True) p.poT g2⟩
    | true => exact g2 _ _ ⟨p.po, p.sh, by simp only [Rp]⟩
theorem de_one {op} (ha : PE X a (wE X.K cl Z ma)) : PE X (.BoolOp op [a] pos) (wE X.K cl Z ma) := pe_one ha
theorem de_not (z : ZOk X.K cl Z) (ha : PE X a (wE X.K cl Z ma)) : PE X (.UnaryOp .Not a pos) (wE X.K cl Z (mNot ma)) :=
  (pe_not ha).wk fun σ H Q ⟨ρ, O, r, g⟩ => wE_then z r g fun d ρ1 v H1 p g1 => by
    obtain ⟨k, e, g2⟩ := Gd.lft g1
    have := asBl_some e
    simp only at this
    subst this
    exact ⟨k, rp_bl p.val, g2 _ _ ⟨p.po, p.sh, by simp only [Rp]⟩⟩
theorem de_if {mt : MT} (z : ZOk X.K cl Z) (hc : PT X c (wT X.K cl Z mt)) (ha : PE X a (wE X.K cl Z ma)) (hb : PE X b (wE X.K cl Z mb)) : PE X (.IfExp c a b pos) (wE X.K cl Z (mIf mt ma mb)) :=
  (pe_ifExp hc ha hb).wk fun σ H Q ⟨ρ, O, r, g⟩ => wT_then z r g fun k ρ1 H1 p g1 => by
    cases k with
    | true => exact ⟨ρ1, O, p.po.rel, PoE.lift (S := fun _ => True) p g1⟩
    | false => exact ⟨ρ1, O, p.po.rel, PoE.lift (S := fun _ => True) p g1⟩
variable {mt mu : MT}
theorem dw_and1 (ha : PT X a (wT X.K cl Z mt)) : PW X (.BoolOp .And [a] pos) (wT X.K cl Z mt) := pw_and1 ha
theorem dw_or1 (ha : PT X a (wT X.K cl Z mt)) : PW X (.BoolOp .Or [a] pos) (wT X.K cl Z mt) := pw_or1 ha
theorem dw_and {rest : List Expr} (z : ZOk X.K cl Z) (ha : PT X a (wT X.K cl Z mt)) (hb : PW X (.BoolOp .And (b :: rest) pos) (wT X.K cl Z mu)) : PW X (.BoolOp .And (a :: b :: rest) pos) (wT X.K cl Z (mAndT mt mu)) :=
  (pw_and ha hb).wk fun σ H Q ⟨ρ, O, r, g⟩ => wT_then z r g fun k ρ1 H1 p g1 => by
    cases k with
    | true => exact ⟨ρ1, O, p.po.rel, p.lift g1⟩
    | false => exact g1 _ p
theorem dw_or {rest : List Expr} (z : ZOk X.K cl Z) (ha : PT X a (wT X.K cl Z mt)) (hb : PW X (.BoolOp .Or (b :: rest) pos) (wT X.K cl Z mu)) : PW X (.BoolOp .Or (a :: b :: rest) pos) (wT X.K cl Z (mOrT mt mu)) :=
  (pw_or ha hb).wk fun σ H Q ⟨ρ, O, r, g⟩ => wT_then z r g fun k ρ1 H1 p g1 => by
    cases k with
    | false => exact ⟨ρ1, O, p.po.rel, p.lift g1⟩
    | true => exact g1 _ p
theorem dt_w (h : PW X e (wT X.K cl Z mt)) : PT X e (wT X.K cl Z mt) := h.pt
theorem dt_not (z : ZOk X.K cl Z) (ha : PT X a (wT X.K cl Z mt)) : PT X (.UnaryOp .Not a pos) (wT X.K cl Z (mNotT mt)) :=
  (pt_not ha).wk fun σ H Q ⟨ρ, O, r, g⟩ => wT_then z r g fun k ρ1 H1 p g1 => g1 _ p

/-! ### arguments, displays -/
variable {mr : MA}
theorem da_nil : PA X [] (wA X.K cl Z mNil) := pa_nil.wk fun σ H Q ⟨ρ, O, r, g⟩ => g _ _ ⟨Po.refl r, fun _ => rfl, Rps.nil⟩
theorem da_cons (z : ZOk X.K cl Z) (ha : PE X a (wE X.K cl Z ma)) (hr : PA X es (wA X.K cl Z mr)) (hs : starEach (a :: es) X.env = (false, eval a X.env) :: starEach es X.env := by rfl) : PA X (a :: es) (wA X.K cl Z (mCons ma mr)) :=
  (pa_cons ha hr hs).wk fun σ H Q ⟨ρ, O, r, g⟩ => wE_then z r g fun d ρ1 v H1 p g1 => wA_then z p.po.rel g1 fun ds ρ2 vs H2 p2 g2 =>
    g2 _ _ ⟨p.po.trans p2.po, fun i => (p.sh i).trans (p2.sh i), Rps.cons (Rp.ex (p2.po.ex p.po.rel) _ _ p.val) p2.val⟩
theorem de_tup {x1} (z : ZOk X.K cl Z) (h : PA X es (wA X.K cl Z mr)) : PE X (.Tuple es x1 pos) (wE X.K cl Z (mTup mr)) :=
  (pe_tup h).wk fun σ H Q ⟨ρ, O, r, g⟩ => wA_then z r g fun ds ρ1 vs H1 p g1 => by
    simp only at g1
    split at g1
    · rename_i hz
      refine ⟨by rw [← p.val.length]; exact hz, fun t ht => g1 _ _ (p.poT.lays (Ex.new ht) ?_)⟩
      simp only [Rp]
      exact ⟨t, vs, rfl, .inl (.inl (new_seen (fun a ha => p.po.rel.hid_some ha) ht)), Rps.ex (new_ex ht) _ _ p.val⟩
    · exact g1.elim
/-- a new list's slot -/
theorem hid_ins {O : Addr → Prop} {ρ : Env} {σ : St} {p a : Addr} : hid (ins O p) ρ σ a ↔ hid O ρ σ a ∨ a = p := by
  unfold hid ins
  constructor
  · rintro ((h | h) | h)
    · exact .inl (.inl h)
    · exact .inr h
    · exact .inl (.inr h)
  · rintro ((h | h) | h)
    · exact .inl (.inl h)
    · exact .inr h
    · exact .inl (.inr h)
/-- behind the making of something at p -/
theorem Rel.laid {K : PySem.W.Frag} {O : Addr → Prop} {ρ : Env} {σ : St} {H : Hp} {p : Addr} {o : HO} (r : Rel K cl O ρ σ H) (hp : H p = none) : Rel K cl (ins O p) ρ σ (upd H p o) := by
  have ex : Ex (vis O ρ σ H) (vis (ins O p) ρ σ (upd H p o)) := hide_mono fun a u h e => by
    have ne : a ≠ p := fun z => by rw [z, hp] at e; cases e
    refine ⟨fun z => ?_, by rw [upd_ne ne]; exact e⟩
    rcases hid_ins.mp z with z | z
    · exact h z
    · exact ne z
  refine ⟨r.len, fun i s h => ?_, r.dist, fun a h z => ?_⟩
  · have q := r.at_ i s h
    have keep : ∀ q o', H q = some o' → (upd H p o) q = some o' := fun q o' e => by
      rw [upd_ne (fun z => by rw [z, hp] at e; cases e)]; exact e
    cases s with
    | un => trivial
    | val d =>
      obtain ⟨v, h1, h2⟩ := q
      exact ⟨v, h1, Rp.ex ex _ _ h2⟩
    | own c =>
      obtain ⟨v, h1, h2, h3⟩ := q
      refine ⟨v, h1, fun z => ?_, h3.ex ex fun o' e => keep _ _ e⟩
      rcases z with z | z
      · exact h2 z
      · exact h3.some (by rw [z]; exact hp)
    | pin c =>
      obtain ⟨v, h1, h2, h3⟩ := q
      exact ⟨v, h1, .inl h2, h3.ex ex fun o' e => keep _ _ e⟩
  · rcases h with h | h
    · by_cases e : a = p
      · subst e; rw [upd_same] at z; cases z
      · rw [upd_ne e] at z; exact r.dom a h z
    · subst h; rw [upd_same] at z; cases z
/-- fewer things are hidden -/
theorem Rel.less {K : PySem.W.Frag} {O : Addr → Prop} {ρ : Env} {σ : St} {H : Hp} {p : Addr} (r : Rel K cl (ins O p) ρ σ H) (hpin : ∀ i, kd ρ i = 2 → ∃ a, σ[i]? = some (some (.ref a)) ∧ O a) : Rel K cl O ρ σ H := by
  have ex : Ex (vis (ins O p) ρ σ H) (vis O ρ σ H) := hide_le fun a h => hid_ins.mpr (.inl h)
  refine ⟨r.len, fun i s h => ?_, r.dist, fun a h => r.dom a (.inl h)⟩
  have q := r.at_ i s h
  cases s with
  | un => trivial
  | val d =>
    obtain ⟨v, h1, h2⟩ := q
    exact ⟨v, h1, Rp.ex ex _ _ h2⟩
  | own c =>
    obtain ⟨v, h1, h2, h3⟩ := q
    exact ⟨v, h1, fun z => h2 (.inl z), h3.ex ex fun _ e => e⟩
  | pin c =>
    obtain ⟨v, h1, h2, h3⟩ := q
    obtain ⟨a, e, oa⟩ := hpin i (by unfold kd; rw [h])
    rw [h1] at e; cases e
    exact ⟨v, h1, oa, h3.ex ex fun _ e => e⟩
theorem dl_lst (z : ZOk X.K cl Z) (h : PA X es (wA X.K cl Z mr)) : PE X (.List es pos) (wL X.K cl Z (mLstL mr)) :=
  (pe_lst h).wk fun σ H Q ⟨ρ, O, r, g⟩ => wA_then z r g fun ds ρ1 vs H1 p g1 => by
    simp only at g1
    split at g1
    · rename_i hz
      refine ⟨by rw [← p.val.length]; exact hz, fun t ht => g1 t _ ?_⟩
      have nt : H t = none := by
        by_cases m : Mu ρ σ t
        · exact absurd ht (fun z => by
            have := p.po.rel.mu_some (a := t) (by
              obtain ⟨i, h1, h2⟩ := m
              exact ⟨i, by rw [← p.sh i]; exact h1, h2⟩)
            exact this z)
        · exact fr_some p.po.fr m ht
      refine ⟨nt, p.po.fr.trans (Fr.of_ex (M := Mu ρ1 σ) (Ex.new ht)) p.po.mu, p.sh, p.po.rel.laid ht, vs, upd_same, Rps.ex ?_ _ _ p.val⟩
      exact hide_mono fun a u h e => by
        have ne : a ≠ t := fun z => by rw [z, ht] at e; cases e
        refine ⟨fun z => ?_, by rw [upd_ne ne]; exact e⟩
        rcases hid_ins.mp z with z | z
        · exact h z
        · exact ne z
    · exact g1.elim
/-- a new list as a value -/
theorem PoL.toE {K : PySem.W.Frag} {O : Addr → Prop} {ρ ρ1 : Env} {σ : St} {H H1 : Hp} {c : Ct} {p : Addr} (r : Rel K cl O ρ σ H) (q : PoL K cl O ρ σ H c ρ1 p H1) : PoE K cl O ρ σ H c.toD ρ1 (.ref p) H1 := by
  have rel : Rel K cl O ρ1 σ H1 := q.rel.less fun i h => by
    have h0 : kd ρ i = 2 := by rw [q.sh i]; exact h
    obtain ⟨c, a, _, e, o, _⟩ := r.pin_at h0
    exact ⟨a, e, o⟩
  refine ⟨⟨q.fr, fun a h => .inl ?_, rel, fun i h => ⟨by rw [← q.sh i]; exact h, rfl⟩⟩, q.sh, ?_⟩
  · obtain ⟨i, h1, h2⟩ := h
    exact ⟨i, by rw [q.sh i]; exact h1, h2⟩
  have np : ¬ hid O ρ1 σ p := fun z => by
    rw [hid_sh q.sh] at z
    exact r.hid_some z q.new
  have ex : Ex (vis (ins O p) ρ1 σ H1) (vis O ρ1 σ H1) := hide_le fun a h => hid_ins.mpr (.inl h)
  have hq := q.val
  cases c with
  | lst ds =>
    obtain ⟨vs, h1, h2⟩ := hq
    simp only [Ct.toD, Rp]
    exact ⟨p, vs, rfl, hide_some.mpr ⟨np, h1⟩, Rps.ex ex _ _ h2⟩
  | dct ds =>
    obtain ⟨vs, h1, h2⟩ := hq
    simp only [Ct.toD, Rp]
    exact ⟨p, vs, rfl, hide_some.mpr ⟨np, h1⟩, Rkv.ex ex _ _ h2⟩
theorem de_ofL {ml : ML} (z : ZOk X.K cl Z) (h : PE X e (wL X.K cl Z ml)) : PE X e (wE X.K cl Z (mOfL ml)) := h.wk fun σ H Q ⟨ρ, O, r, g⟩ =>
  ⟨ρ, O, r, (Gd.bind.mp g).mono (fun x q p H' w => q _ _ (w.toE r)) fun _ _ _ w => w⟩
end
end DF
namespace DF
open PySem PySem.Spec L2 Evl

/-! ### subscripts -/
def opIx : D → D → Option D
  | .tup ds, .int i => L2.atI ds i
  | .lst ds, .int i => L2.atI ds i
  | .scr is, .int i => (L2.atI is i).map .int
  | .str z, .int i => if z.length ≤ sizeLine then (L2.atI z.cps.toList i).map fun c => .str ⟨#[c]⟩ else none
  | .dct kvs, .str k => kvs.lookup k
  | _, _ => none
section
variable {X : Cx} {cl : Nat → Addr} {Z : ZK}
theorem atI_get {α : Type} {xs : List α} {i : Int} {x : α} (h : L2.atI xs i = some x) : ∃ j, L2.ixN xs.length i = some j ∧ xs[j]? = some x := by
  unfold L2.atI at h
  cases e : L2.ixN xs.length i with
  | none => rw [e] at h; cases h
  | some j => rw [e] at h; exact ⟨j, rfl, h⟩
theorem atI_rp {K : PySem.W.Frag} {H : Hp} {ds : List D} {vs : List V} {i : Int} {d : D} (r : Rps K cl H ds vs) (h : L2.atI ds i = some d) : ∃ v, L2.atI vs i = some v ∧ Rp K cl H d v := by
  obtain ⟨j, e1, e2⟩ := atI_get h
  obtain ⟨v, e3, e4⟩ := r.get e2
  refine ⟨v, ?_, e4⟩
  unfold L2.atI
  rw [← r.length, e1]
  exact e3
theorem rkv_get {K : PySem.W.Frag} {H : Hp} {k : Str} {d : D} : ∀ {kvs : List (Str × D)} {ws : List (Key × V)}, Rkv K cl H kvs ws → kvs.lookup k = some d → ∃ v, valV ws (.inr k) = some v ∧ Rp K cl H d v
  | [], ws, h, e => by simp at e
  | (k', d') :: kvs, ws, h, e => by
    simp only [Rkv] at h
    obtain ⟨v, r, rfl, h1, h2⟩ := h
    rw [List.lookup_cons] at e
    by_cases hk : k = k'
    · subst hk
      simp at e
      subst e
      exact ⟨v, valV_pos rfl, h1⟩
    · have : (k == k') = false := by simpa using hk
      rw [this] at e
      obtain ⟨w, h3, h4⟩ := rkv_get h2 e
      exact ⟨w, by rw [valV_neg (fun z => hk (Sum.inr.inj z).symm)]; exact h3, h4⟩
def isDct : D → Bool
  | .dct _ => true
  | _ => false
theorem pe_alt {X : Cx} {e : Expr} {t u : TE} (h1 : PE X e t) (h2 : PE X e u) : PE X e (fun σ H Q => t σ H Q ∨ u σ H Q) := ⟨fun pins s σ H Q I h => h.elim (h1.run pins s σ H Q I) (h2.run pins s σ H Q I)⟩
theorem p2_ix : P2 X.K cl (rIx X.K) (fun a b => if isDct a = true then none else opIx a b) := fun P H x y dx dy d Q hP hx hy e q => by
  have e' : isDct dx = false ∧ opIx dx dy = some d := by
    simp only at e
    cases h : isDct dx
    · rw [h] at e; exact ⟨rfl, by simpa using e⟩
    · rw [h] at e; simp at e
  obtain ⟨nd, e⟩ := e'
  unfold opIx at e
  split at e
  · simp only [Rp] at hx hy
    obtain ⟨a, vs, rfl, h1, h2⟩ := hx
    subst hy
    obtain ⟨v, e1, e2⟩ := atI_rp h2 e
    exact .inr (.inl ⟨a, vs, _, v, rfl, rfl, hide_seqT h1, e1, q v H (Ex.refl H) e2⟩)
  · simp only [Rp] at hx hy
    obtain ⟨a, vs, rfl, h1, h2⟩ := hx
    subst hy
    obtain ⟨v, e1, e2⟩ := atI_rp h2 e
    exact .inl ⟨a, vs, _, v, rfl, rfl, SqL.of (hide_at h1), e1, q v H (Ex.refl H) e2⟩
  · simp only [Rp] at hx hy
    obtain ⟨a, rfl, h1⟩ := hx
    subst hy
    obtain ⟨v, e1, rfl⟩ := Option.map_eq_some_iff.mp e
    refine .inl ⟨a, _, _, .int v, rfl, rfl, hide_seqL h1, ?_, q _ H (Ex.refl H) (by simp only [Rp])⟩
    unfold L2.atI at e1 ⊢
    rw [List.length_map]
    obtain ⟨j, e2, e3⟩ := Option.bind_eq_some_iff.mp e1
    rw [e2]
    simp only [Option.bind_some, List.getElem?_map, e3, Option.map_some]
  · simp only [Rp] at hx hy
    subst hx; subst hy
    split at e
    · rename_i hz
      obtain ⟨c, e1, rfl⟩ := Option.map_eq_some_iff.mp e
      exact .inr (.inr ⟨_, _, c, rfl, rfl, hz, e1, q _ H (Ex.refl H) (by simp only [Rp])⟩)
    · cases e
  · cases nd
  · cases e
variable {a b e : Expr} {ma mb : ME} {pos : Pos}
theorem de_ix (z : ZOk X.K cl Z) (hu : X.A.units + 1 < cLine) (ha : PE X a (wE X.K cl Z ma)) (hb : PE X b (wE X.K cl Z mb)) (hs : PlainIx b) (hs' : NoSl b) : PE X (.Subscript a b pos) (wE X.K cl Z (mBin opIx ma mb)) :=
  (pe_alt (pe_ix ix_seq ha hb hs) (pe_dget hu ha hb hs')).wk fun σ H Q q => by
    obtain ⟨ρ, O, r, g⟩ := q
    -- which one: by the data
    cases hm : ma ρ with
    | bad => rw [show mBin opIx ma mb ρ = .bad by unfold mBin; rw [hm]; rfl] at g; exact g.elim
    | err c d ρ' =>
      rw [show mBin opIx ma mb ρ = .err c d ρ' by unfold mBin; rw [hm]; rfl] at g
      exact .inl ⟨ρ, O, r, by rw [hm]; exact g⟩
    | ok x =>
      obtain ⟨d0, ρ0⟩ := x
      cases hd : isDct d0 with
      | false =>
        refine .inl ?_
        have g' : Gd ((ma ρ).bind fun x => (mb x.2).bind fun y => (lft ((fun a b => if isDct a = true then none else opIx a b) x.1 y.1)).bind fun d => Res.ok (d, y.2)) (fun x => ∀ v H', PoE X.K cl O ρ σ H x.1 x.2 v H' → Q v H') (Z O ρ σ H) := by
          unfold mBin at g
          rw [hm] at g ⊢
          simp only [bind_ok] at g ⊢
          simp only [hd, Bool.false_eq_true, if_false]
          exact g
        exact w2 z r g' fun d1 d2 ρ1 ρ2 v w H2 p hv hw g2 => by
          obtain ⟨d, e, g3⟩ := Gd.lft g2
          exact p2_ix (hid O ρ2 σ) H2 v w d1 d2 d Q (fun a ha => p.po.rel.hid_some ha) hv hw e fun u H' ex hu => g3 u H' (p.lays ex hu)
      | true =>
        refine .inr ?_
        have g' : Gd ((ma ρ).bind fun x => (mb x.2).bind fun y => (lft ((fun a b => if isDct a = true then opIx a b else none) x.1 y.1)).bind fun d => Res.ok (d, y.2)) (fun x => ∀ v H', PoE X.K cl O ρ σ H x.1 x.2 v H' → Q v H') (Z O ρ σ H) := by
          unfold mBin at g
          rw [hm] at g ⊢
          simp only [bind_ok] at g ⊢
          simp only [hd, if_true]
          exact g
        exact w2 z r g' fun d1 d2 ρ1 ρ2 v w H2 p hv hw g2 => by
          obtain ⟨d, e, g3⟩ := Gd.lft g2
          cases d1 <;> simp only [isDct, Bool.false_eq_true, if_false, if_true] at e <;> try (cases e; done)
          cases d2 <;> simp only [opIx] at e <;> try (cases e; done)
          simp only [Rp] at hv hw
          obtain ⟨p0, ws, rfl, h1, h2⟩ := hv
          subst hw
          obtain ⟨v', e1, e2⟩ := rkv_get h2 e
          exact ⟨p0, v', rfl, e1 ▸ DGet.k (k := Sum.inr _) (hide_at h1), g3 v' H2 (p.lays (Ex.refl H2) e2)⟩
/-- a list of the frame's own, an item -/
def ctOf (ρ : Env) (i : Nat) : Option Ct := match ρ[i]? with
  | some (.own c) => some c
  | some (.pin c) => some c
  | _ => none
def ctIx : Ct → D → Option D
  | .lst ds, .int i => L2.atI ds i
  | .dct kvs, .str k => kvs.lookup k
  | _, _ => none
def ctIxL : Ct → D → Option D
  | .lst ds, .int i => L2.atI ds i
  | _, _ => none
theorem Rel.ct {K : PySem.W.Frag} {O : Addr → Prop} {ρ : Env} {σ : L2.St} {H : Hp} {i : Nat} {c : Ct} (r : Rel K cl O ρ σ H) (h : ctOf ρ i = some c) : ∃ p, σ[i]? = some (some (.ref p)) ∧ Rc K cl (vis O ρ σ H) H c p ∧ kd ρ i ≠ 0 := by
  unfold ctOf at h
  split at h
  · rename_i c' e
    cases h
    obtain ⟨p, h1, _, h3⟩ := r.at_ i _ e
    exact ⟨p, h1, h3, by unfold kd; rw [e]; simp⟩
  · rename_i c' e
    cases h
    obtain ⟨p, h1, _, h3⟩ := r.at_ i _ e
    exact ⟨p, h1, h3, by unfold kd; rw [e]; simp⟩
  · cases h
def mIxO (i : Nat) (mb : ME) : ME := fun ρ => (lft (ctOf ρ i)).bind fun _ => (mb ρ).bind fun y => (lft (ctOf y.2 i)).bind fun c => (lft (ctIxL c y.1)).bind fun d => .ok (d, y.2)
/-- a name of a list of the frame's own, or of what was handed in to be changed -/
theorem de_ixO (z : ZOk X.K cl Z) (i : Nat) (ha : PE X a (tVar i)) (hb : PE X b (wE X.K cl Z mb)) (hs : PlainIx b) : PE X (.Subscript a b pos) (wE X.K cl Z (mIxO i mb)) :=
  (pe_ix ix_list ha hb hs).wk fun σ H Q ⟨ρ, O, r, g⟩ => by
    obtain ⟨c0, hc0, g⟩ := Gd.lft g
    obtain ⟨p, h1, _, _⟩ := r.ct hc0
    refine ⟨.ref p, h1, wE_then z r g fun d ρ1 v H1 p1 g1 => ?_⟩
    obtain ⟨c, e1, g2⟩ := Gd.lft g1
    obtain ⟨d', e2, g3⟩ := Gd.lft g2
    obtain ⟨p', h1', h3, _⟩ := p1.po.rel.ct e1
    rw [h1] at h1'; cases h1'
    cases c with
    | dct _ => simp only [ctIxL] at e2; cases e2
    | lst ds =>
      cases d <;> simp only [ctIxL] at e2 <;> try (cases e2; done)
      obtain ⟨vs, h4, h5⟩ := h3
      have hv := p1.val
      simp only [Rp] at hv
      subst hv
      obtain ⟨v', e3, e4⟩ := atI_rp h5 e2
      exact ⟨p, vs, _, v', rfl, rfl, SqL.of h4, e3, g3 v' H1 ⟨p1.po, p1.sh, e4⟩⟩
/-- len of such a list -/
def ctLen : Ct → Option D
  | .lst ds => some (.int ds.length)
  | _ => none
def mLenO (i : Nat) : ME := fun ρ => (lft (ctOf ρ i)).bind fun c => (lft (ctLen c)).bind fun d => .ok (d, ρ)
theorem de_lenO {x : Str} {p : Pos} (i : Nat) (ha : PE X a (tVar i)) (hg : Gl X x) (hm : X.mg x = none) (hv : bootBuiltins x = some (.builtin "len")) (hn : x ≠ "__name__" := by decide) (hdb : (x == ("__debug__" : Str)) = false := by decide)
    (he : starEach [a] X.env = (false, eval a X.env) :: starEach [] X.env := by rfl) (hpl : (backTo pos (starEach [] X.env)).any (·.1) = false := by rfl) : PE X (.Call (.Name x p) [a] [] pos) (wE X.K cl Z (mLenO i)) :=
  (pe_callB call_len hg hm hv (pa_cons ha pa_nil he) hn hdb he hpl).wk fun σ H Q ⟨ρ, O, r, g⟩ => by
    obtain ⟨c, e, g⟩ := Gd.lft g
    obtain ⟨d, e2, g⟩ := Gd.lft g
    obtain ⟨p, h1, h2, _⟩ := r.ct e
    cases c with
    | dct _ => simp only [ctLen] at e2; cases e2
    | lst ds =>
      obtain ⟨vs, h3, h4⟩ := h2
      simp only [ctLen, Option.some.injEq] at e2
      subst e2
      refine ⟨.ref p, h1, .ref p, vs.length, rfl, .inl ⟨vs, SqL.of h3, rfl⟩, ?_⟩
      rw [← h4.length]
      exact g _ H ⟨Po.refl r, fun _ => rfl, by simp only [Rp]⟩

/-! ### slices -/
def ixOpt : Option D → Option (Option Int)
  | none => some none
  | some (.int i) => some (some i)
  | _ => none
def cutD (xs : List D) (lo hi : Option Int) : List D := (xs.drop (HT.sIx xs.length 0 lo)).take (HT.sIx xs.length xs.length hi - HT.sIx xs.length 0 lo)
def opSl (d : D) (lo hi : Option Int) : Option D := match d with
  | .tup ds => some (.tup (cutD ds lo hi))
  | .lst ds => some (.lst (cutD ds lo hi))
  | .scr is => some (.lst (cutD (is.map .int) lo hi))
  | .str z => if z.length ≤ sizeLine then some (.str (cutS z lo hi)) else none
  | _ => none
theorem cut_rp {K : PySem.W.Frag} {H : Hp} {ds : List D} {vs : List V} (lo hi : Option Int) (r : Rps K cl H ds vs) : Rps K cl H (cutD ds lo hi) (cutV vs lo hi) := by
  unfold cutD cutV
  rw [r.length]
  exact (r.drop _).take _
theorem rps_ints {K : PySem.W.Frag} {H : Hp} : ∀ is : List Int, Rps K cl H (is.map .int) (is.map .int)
  | [] => Rps.nil
  | i :: is => Rps.cons (by simp only [Rp]) (rps_ints is)
abbrev MO := Env → Res (Option Int × Env)
def mPart (ma : ME) : MO := fun ρ => (ma ρ).bind fun x => (lft (match x.1 with | .int i => some i | _ => none)).bind fun i => .ok (some i, x.2)
def mNoPart : MO := fun ρ => .ok (none, ρ)
def wO (K : PySem.W.Frag) (cl : Nat → Addr) (Z : ZK) (m : MO) : TO := fun σ H Q => ∃ ρ O, Rel K cl O ρ σ H ∧ Gd (m ρ) (fun x => ∀ H', PoT K cl O ρ σ H x.2 H' → Q x.1 H') (Z O ρ σ H)
theorem wO_then {β : Type} {m : MO} {f : Option Int × Env → Res β} {S : β → Prop} {σ : L2.St} {H : Hp} {R : Option Int → Hp → Prop} {K : PySem.W.Frag} (z : ZOk K cl Z)
    {ρ : Env} {O : Addr → Prop} (r : Rel K cl O ρ σ H) (h : Gd ((m ρ).bind f) S (Z O ρ σ H))
    (k : ∀ b ρ1 H1, PoT K cl O ρ σ H ρ1 H1 → Gd (f (b, ρ1)) S (Z O ρ1 σ H1) → R b H1) : wO K cl Z m σ H R := by
  refine ⟨ρ, O, r, (Gd.bind.mp h).mono (fun x q H' p => k x.1 x.2 H' p (q.mono (fun _ z => z) fun c d ρ2 w => z.mono r p.po w)) fun _ _ _ w => w⟩
theorem _root_.L2.PO.wk {e : Option Expr} {t t' : TO} (h : PO X e t) (k : ∀ σ H Q, t' σ H Q → t σ H Q) : PO X e t' := ⟨fun pins s σ H Q I q => h.run pins s σ H Q I (k _ _ _ q)⟩
theorem do_none : PO X none (wO X.K cl Z mNoPart) := po_none.wk fun σ H Q ⟨ρ, O, r, g⟩ => g H (PoT.refl r)
theorem do_some (z : ZOk X.K cl Z) (ha : PE X a (wE X.K cl Z ma)) : PO X (some a) (wO X.K cl Z (mPart ma)) := (po_some ha).wk fun σ H Q ⟨ρ, O, r, g⟩ =>
  wE_then z r g fun d ρ1 v H1 p g1 => by
    obtain ⟨i, e, g2⟩ := Gd.lft g1
    cases d <;> simp only at e <;> try (cases e; done)
    cases e
    have hv := p.val
    simp only [Rp] at hv
    exact ⟨_, hv, g2 H1 p.poT⟩
def mSl (ma : ME) (ml mh : MO) : ME := fun ρ => (ma ρ).bind fun x => (ml x.2).bind fun l => (mh l.2).bind fun h => (lft (opSl x.1 l.1 h.1)).bind fun d => .ok (d, h.2)
theorem cutS_ok (z : Str) (lo hi : Option Int) : True := trivial
theorem de_slice {lo hi : Option Expr} {ml mh : MO} {p2 : Pos} (z : ZOk X.K cl Z) (ha : PE X a (wE X.K cl Z ma)) (hl : PO X lo (wO X.K cl Z ml)) (hh : PO X hi (wO X.K cl Z mh)) : PE X (.Subscript a (.Slice lo hi none p2) pos) (wE X.K cl Z (mSl ma ml mh)) :=
  (pe_slice (sl_list.or (sl_tupA.or sl_str)) ha hl hh).wk fun σ H Q ⟨ρ, O, r, g⟩ =>
    wE_then z r g fun d ρ1 v H1 p1 g1 => wO_then z p1.po.rel g1 fun l ρ2 H2 p2 g2 => wO_then z p2.po.rel g2 fun u ρ3 H3 p3 g3 => by
      obtain ⟨d', e, g4⟩ := Gd.lft g3
      have p := (p1.poT.seq p2).seq p3
      have hv : Rp X.K cl (hide H3 (hid O ρ3 σ)) d v := Rp.ex ((p2.po.trans p3.po).ex p1.po.rel) _ _ p1.val
      have hP : ∀ a, hid O ρ3 σ a → H3 a ≠ none := fun a ha => p.po.rel.hid_some ha
      cases d <;> simp only [opSl] at e <;> try (cases e; done)
      · simp only [Rp] at hv
        subst hv
        split at e
        · rename_i hz
          cases e
          exact .inr (.inr ⟨_, rfl, hz, g4 _ H3 (p.lays (Ex.refl H3) (by simp only [Rp]))⟩)
        · cases e
      · rename_i ds
        cases e
        have hv' := hv
        simp only [Rp] at hv
        obtain ⟨a, vs, rfl, h1, h2⟩ := hv
        refine .inr (.inl ⟨a, vs, rfl, hide_seqT h1, fun ⟨w1, w2⟩ => g4 _ H3 (p.lays (Ex.refl H3) ?_), fun _ t ht => g4 _ _ (p.lays (Ex.new ht) ?_)⟩)
        · have e0 : cutD ds l u = ds := by
            unfold cutD
            rw [h2.length, w1, w2, ← h2.length]
            simp
          rw [e0]
          exact hv'
        · simp only [Rp]
          exact ⟨t, _, rfl, .inl (.inl (new_seen hP ht)), Rps.ex (new_ex ht) _ _ (cut_rp l u h2)⟩
      · cases e
        simp only [Rp] at hv
        obtain ⟨a, vs, rfl, h1, h2⟩ := hv
        refine .inl ⟨a, vs, rfl, SqL.of (hide_at h1), fun t ht => g4 _ _ (p.lays (Ex.new ht) ?_)⟩
        simp only [Rp]
        exact ⟨t, _, rfl, new_seen hP ht, Rps.ex (new_ex ht) _ _ (cut_rp l u h2)⟩
      · rename_i is
        cases e
        simp only [Rp] at hv
        obtain ⟨a, rfl, h1⟩ := hv
        refine .inl ⟨a, _, rfl, hide_seqL h1, fun t ht => g4 _ _ (p.lays (Ex.new ht) ?_)⟩
        simp only [Rp]
        exact ⟨t, _, rfl, new_seen hP ht, cut_rp l u (rps_ints is)⟩

/-! ### one-place operations, built-ins -/
def opNeg : D → Option D
  | .int i => some (.int (-i))
  | _ => none
theorem de_neg (z : ZOk X.K cl Z) (ha : PE X a (wE X.K cl Z ma)) : PE X (.UnaryOp .USub a pos) (wE X.K cl Z (mUn opNeg ma)) :=
  (pe_un un_neg ha).wk fun σ H Q ⟨ρ, O, r, g⟩ => wE_then z r g fun d ρ1 v H1 p1 g1 => by
    obtain ⟨d', e, g2⟩ := Gd.lft g1
    cases d <;> simp only [opNeg] at e <;> try (cases e; done)
    cases e
    have hv := p1.val
    simp only [Rp] at hv
    exact ⟨_, hv, g2 _ H1 (p1.poT.lays (Ex.refl H1) (by simp only [Rp]))⟩
def mCallN (f : List D → Option D) (ma : MA) : ME := fun ρ => (ma ρ).bind fun x => (lft (f x.1)).bind fun d => .ok (d, x.2)
theorem de_tcb {r : List V → Hp → VK → Prop} {f : List D → Option D} {mr : MA} (z : ZOk X.K cl Z) (hp : PN X.K cl r f) (h : PE X e (tCB r (wA X.K cl Z mr))) : PE X e (wE X.K cl Z (mCallN f mr)) :=
  h.wk fun σ H Q ⟨ρ, O, rr, g⟩ => wA_then z rr g fun ds ρ1 vs H1 p g1 => by
    obtain ⟨d, e, g2⟩ := Gd.lft g1
    exact hp (hid O ρ1 σ) H1 vs ds d Q (fun a ha => p.po.rel.hid_some ha) p.val e fun u H' ex hu => g2 u H' (p.poT.lays ex hu)
variable {es : List Expr} {mr : MA} {x : Str} {p : Pos} {id T : String} {f : List D → Option D}
/-- a rule of a call -/
structure OpN (X : Cx) (cl : Nat → Addr) (v : Value) (f : List D → Option D) : Prop where
  ex : ∃ r, CallR X v r ∧ PN X.K cl r f
theorem de_callB (z : ZOk X.K cl Z) (o : OpN X cl (.builtin id) f) (hg : Gl X x) (hm : X.mg x = none) (hv : bootBuiltins x = some (.builtin id)) (ha : PA X (a :: es) (wA X.K cl Z mr)) (hn : x ≠ "__name__" := by decide) (hdb : (x == ("__debug__" : Str)) = false := by decide)
    (he : starEach (a :: es) X.env = (false, eval a X.env) :: starEach es X.env := by rfl) (hpl : (backTo pos (starEach es X.env)).any (·.1) = false := by rfl) : PE X (.Call (.Name x p) (a :: es) [] pos) (wE X.K cl Z (mCallN f mr)) := by
  obtain ⟨r, h1, h2⟩ := o.ex
  exact de_tcb z h2 (pe_callB h1 hg hm hv ha hn hdb he hpl)
theorem de_callTy (z : ZOk X.K cl Z) (o : OpN X cl (.type T) f) (hg : Gl X x) (hm : X.mg x = none) (hv : bootBuiltins x = some (.type T)) (ha : PA X (a :: es) (wA X.K cl Z mr)) (hn : x ≠ "__name__" := by decide) (hdb : (x == ("__debug__" : Str)) = false := by decide)
    (he : starEach (a :: es) X.env = (false, eval a X.env) :: starEach es X.env := by rfl) (hpl : (backTo pos (starEach es X.env)).any (·.1) = false := by rfl) : PE X (.Call (.Name x p) (a :: es) [] pos) (wE X.K cl Z (mCallN f mr)) := by
  obtain ⟨r, h1, h2⟩ := o.ex
  exact de_tcb z h2 (pe_callTy h1 hg hm hv ha hn hdb he hpl)
theorem CallR.or {v : Value} {r r' : List V → Hp → VK → Prop} (h : CallR X v r) (h' : CallR X v r') : CallR X v (fun xs H Q => r xs H Q ∨ r' xs H Q) := by
  intro pins s σ H xs us Q I rx q
  rcases q with q | q
  · exact h pins s σ H xs us Q I rx q
  · exact h' pins s σ H xs us Q I rx q
theorem rps1 {K : PySem.W.Frag} {H : Hp} {d : D} {xs : List V} (h : Rps K cl H [d] xs) : ∃ v, xs = [v] ∧ Rp K cl H d v := by
  simp only [Rps] at h
  obtain ⟨v, r, rfl, h1, rfl⟩ := h
  exact ⟨v, rfl, h1⟩
theorem rps2 {K : PySem.W.Frag} {H : Hp} {d e : D} {xs : List V} (h : Rps K cl H [d, e] xs) : ∃ v w, xs = [v, w] ∧ Rp K cl H d v ∧ Rp K cl H e w := by
  simp only [Rps] at h
  obtain ⟨v, r, rfl, h1, w, r', rfl, h2, rfl⟩ := h
  exact ⟨v, w, rfl, h1, h2⟩
def fAbs : List D → Option D
  | [.int i] => some (.int (if i < 0 then -i else i))
  | _ => none
theorem o_abs : OpN X cl (.builtin "abs") fAbs := ⟨_, call_abs, fun P H xs ds d Q hP hx e q => by
  unfold fAbs at e
  split at e
  · cases e
    obtain ⟨v, rfl, h1⟩ := rps1 hx
    simp only [Rp] at h1
    subst h1
    exact ⟨_, rfl, q _ H (Ex.refl H) (by simp only [Rp])⟩
  · cases e⟩
def fLen : List D → Option D
  | [.str z] => if z.length ≤ sizeLine then some (.int z.length) else none
  | [.tup ds] => some (.int ds.length)
  | [.lst ds] => some (.int ds.length)
  | [.scr is] => some (.int is.length)
  | _ => none
theorem o_len : OpN X cl (.builtin "len") fLen := ⟨_, call_len, fun P H xs ds d Q hP hx e q => by
  unfold fLen at e
  split at e
  · split at e
    · rename_i hz
      cases e
      obtain ⟨v, rfl, h1⟩ := rps1 hx
      simp only [Rp] at h1
      subst h1
      exact ⟨_, _, rfl, ⟨hz, rfl⟩, q _ H (Ex.refl H) (by simp only [Rp])⟩
    · cases e
  · cases e
    obtain ⟨v, rfl, h1⟩ := rps1 hx
    simp only [Rp] at h1
    obtain ⟨a, vs, rfl, h2, h3⟩ := h1
    refine ⟨_, _, rfl, .inr ⟨vs, hide_seqT h2, rfl⟩, ?_⟩
    rw [← h3.length]
    exact q _ H (Ex.refl H) (by simp only [Rp])
  · cases e
    obtain ⟨v, rfl, h1⟩ := rps1 hx
    simp only [Rp] at h1
    obtain ⟨a, vs, rfl, h2, h3⟩ := h1
    refine ⟨_, _, rfl, .inl ⟨vs, SqL.of (hide_at h2), rfl⟩, ?_⟩
    rw [← h3.length]
    exact q _ H (Ex.refl H) (by simp only [Rp])
  · cases e
    obtain ⟨v, rfl, h1⟩ := rps1 hx
    simp only [Rp] at h1
    obtain ⟨a, rfl, h2⟩ := h1
    refine ⟨_, _, rfl, .inl ⟨_, hide_seqL h2, rfl⟩, ?_⟩
    rw [List.length_map]
    exact q _ H (Ex.refl H) (by simp only [Rp])
  · cases e⟩
def fMin2 : List D → Option D
  | [.int i, .int j] => some (.int (if j < i then j else i))
  | _ => none
theorem o_min2 (hc : X.calm = true) : OpN X cl (.builtin "min") fMin2 := ⟨_, call_min2 hc, fun P H xs ds d Q hP hx e q => by
  unfold fMin2 at e
  split at e
  · cases e
    obtain ⟨v, w, rfl, h1, h2⟩ := rps2 hx
    simp only [Rp] at h1 h2
    subst h1; subst h2
    exact ⟨_, _, rfl, q _ H (Ex.refl H) (by simp only [Rp])⟩
  · cases e⟩
def fMax2 : List D → Option D
  | [.int i, .int j] => some (.int (if j > i then j else i))
  | _ => none
theorem o_max2 (hc : X.calm = true) : OpN X cl (.builtin "max") fMax2 := ⟨_, call_max2 hc, fun P H xs ds d Q hP hx e q => by
  unfold fMax2 at e
  split at e
  · cases e
    obtain ⟨v, w, rfl, h1, h2⟩ := rps2 hx
    simp only [Rp] at h1 h2
    subst h1; subst h2
    exact ⟨_, _, rfl, q _ H (Ex.refl H) (by simp only [Rp])⟩
  · cases e⟩
def fInt : List D → Option D
  | [.int i] => some (.int i)
  | [.bl k] => some (.int (if k then 1 else 0))
  | [.str a] => if a.length ≤ 640 then (PySem.intText? a).map D.int else none
  | _ => none
theorem o_int : OpN X cl (.type "int") fInt := ⟨_, CallR.or call_int1 call_int_str, fun P H xs ds d Q hP hx e q => by
  unfold fInt at e
  split at e
  · cases e
    obtain ⟨v, rfl, h1⟩ := rps1 hx
    simp only [Rp] at h1
    subst h1
    exact .inl (.inl ⟨_, rfl, q _ H (Ex.refl H) (by simp only [Rp])⟩)
  · cases e
    obtain ⟨v, rfl, h1⟩ := rps1 hx
    simp only [Rp] at h1
    subst h1
    exact .inl (.inr ⟨_, rfl, q _ H (Ex.refl H) (by simp only [Rp])⟩)
  · split at e
    · rename_i hz
      obtain ⟨n, e1, rfl⟩ := Option.map_eq_some_iff.mp e
      obtain ⟨v, rfl, h1⟩ := rps1 hx
      simp only [Rp] at h1
      subst h1
      exact .inr ⟨_, n, rfl, e1, hz, q _ H (Ex.refl H) (by simp only [Rp])⟩
    · cases e
  · cases e⟩
def fStr : List D → Option D
  | [.int i] => if i.natAbs.log2 < 1920 then some (.str (toString i)) else none
  | _ => none
theorem o_str : OpN X cl (.type "str") fStr := ⟨_, call_str_int, fun P H xs ds d Q hP hx e q => by
  unfold fStr at e
  split at e
  · split at e
    · rename_i hz
      cases e
      obtain ⟨v, rfl, h1⟩ := rps1 hx
      simp only [Rp] at h1
      subst h1
      exact ⟨_, rfl, hz, q _ H (Ex.refl H) (by simp only [Rp])⟩
    · cases e
  · cases e⟩
def blsOf : List D → Option (List Bool)
  | [] => some []
  | .bl b :: ds => (blsOf ds).map fun r => b :: r
  | _ => none
theorem bls_rp {K : PySem.W.Frag} {H : Hp} : ∀ {ds : List D} {vs : List V} {bs : List Bool}, Rps K cl H ds vs → blsOf ds = some bs → vs = bs.map V.bl
  | [], vs, bs, h, e => by simp only [Rps] at h; simp only [blsOf, Option.some.injEq] at e; subst h; subst e; rfl
  | d :: ds, vs, bs, h, e => by
    simp only [Rps] at h
    obtain ⟨v, r, rfl, h1, h2⟩ := h
    cases d <;> simp only [blsOf] at e <;> try (cases e; done)
    obtain ⟨bs', e1, rfl⟩ := Option.map_eq_some_iff.mp e
    simp only [Rp] at h1
    subst h1
    rw [bls_rp h2 e1]
    rfl
def fAll : List D → Option D
  | [.lst ds] => (blsOf ds).map fun bs => .bl (bs.all fun b => b)
  | _ => none
def fAny : List D → Option D
  | [.lst ds] => (blsOf ds).map fun bs => .bl (bs.any fun b => b)
  | _ => none
theorem o_all (hc : X.calm = true) : OpN X cl (.builtin "all") fAll := ⟨_, cr_all hc, fun P H xs ds d Q hP hx e q => by
  unfold fAll at e
  split at e
  · obtain ⟨bs, e1, rfl⟩ := Option.map_eq_some_iff.mp e
    obtain ⟨v, rfl, h1⟩ := rps1 hx
    simp only [Rp] at h1
    obtain ⟨a, vs, rfl, h2, h3⟩ := h1
    have e2 := bls_rp h3 e1
    subst e2
    exact ⟨a, bs, rfl, SqL.of (hide_at h2), q _ H (Ex.refl H) (by simp only [Rp]; rfl)⟩
  · cases e⟩
theorem o_any (hc : X.calm = true) : OpN X cl (.builtin "any") fAny := ⟨_, cr_any hc, fun P H xs ds d Q hP hx e q => by
  unfold fAny at e
  split at e
  · obtain ⟨bs, e1, rfl⟩ := Option.map_eq_some_iff.mp e
    obtain ⟨v, rfl, h1⟩ := rps1 hx
    simp only [Rp] at h1
    obtain ⟨a, vs, rfl, h2, h3⟩ := h1
    have e2 := bls_rp h3 e1
    subst e2
    exact ⟨a, bs, rfl, SqL.of (hide_at h2), q _ H (Ex.refl H) (by simp only [Rp]; rfl)⟩
  · cases e⟩
def intsOf : List D → Option (List Int)
  | [] => some []
  | .int b :: ds => (intsOf ds).map fun r => b :: r
  | _ => none
theorem ints_rp {K : PySem.W.Frag} {H : Hp} : ∀ {ds : List D} {vs : List V} {bs : List Int}, Rps K cl H ds vs → intsOf ds = some bs → vs = bs.map V.int
  | [], vs, bs, h, e => by simp only [Rps] at h; simp only [intsOf, Option.some.injEq] at e; subst h; subst e; rfl
  | d :: ds, vs, bs, h, e => by
    simp only [Rps] at h
    obtain ⟨v, r, rfl, h1, h2⟩ := h
    cases d <;> simp only [intsOf] at e <;> try (cases e; done)
    obtain ⟨bs', e1, rfl⟩ := Option.map_eq_some_iff.mp e
    simp only [Rp] at h1
    subst h1
    rw [ints_rp h2 e1]
    rfl
def fSum : List D → Option D
  | [.lst ds] => (intsOf ds).map fun bs => .int bs.sum
  | _ => none
theorem o_sum (hc : X.calm = true) : OpN X cl (.builtin "sum") fSum := ⟨_, cr_sum hc, fun P H xs ds d Q hP hx e q => by
  unfold fSum at e
  split at e
  · obtain ⟨bs, e1, rfl⟩ := Option.map_eq_some_iff.mp e
    obtain ⟨v, rfl, h1⟩ := rps1 hx
    simp only [Rp] at h1
    obtain ⟨a, vs, rfl, h2, h3⟩ := h1
    have e2 := ints_rp h3 e1
    subst e2
    exact ⟨a, bs, rfl, SqL.of (hide_at h2), q _ H (Ex.refl H) (by simp only [Rp])⟩
  · cases e⟩
def fTuple : List D → Option D
  | [.lst ds] => some (.tup ds)
  | [.tup ds] => some (.tup ds)
  | _ => none
theorem o_tuple : OpN X cl (.type "tuple") fTuple := ⟨_, call_tuple_of, fun P H xs ds d Q hP hx e q => by
  unfold fTuple at e
  split at e
  · cases e
    obtain ⟨v, rfl, h1⟩ := rps1 hx
    simp only [Rp] at h1
    obtain ⟨a, vs, rfl, h2, h3⟩ := h1
    refine ⟨a, vs, rfl, .inl ⟨SqL.of (hide_at h2), fun t ht => q _ _ (Ex.new ht) ?_⟩⟩
    simp only [Rp]
    exact ⟨t, vs, rfl, .inl (.inl (new_seen hP ht)), Rps.ex (new_ex ht) _ _ h3⟩
  · cases e
    obtain ⟨v, rfl, h1⟩ := rps1 hx
    have h1' := h1
    simp only [Rp] at h1
    obtain ⟨a, vs, rfl, h2, h3⟩ := h1
    exact ⟨a, vs, rfl, .inr ⟨hide_seqT h2, q _ H (Ex.refl H) h1'⟩⟩
  · cases e⟩
/-! isinstance(x, T), T a built-in type -/
def tyName : D → Option String
  | .non => some "NoneType" | .bl _ => some "bool" | .int _ => some "int" | .str _ => some "str" | .tup _ => some "tuple" | .lst _ => some "list" | .dct _ => some "dict"
  | _ => none
def isiOk (c : String) : Bool := c == "int" || c == "bool" || c == "str" || c == "tuple" || c == "list" || c == "dict"
def fIsi : List D → Option D
  | [d, .ty c] => if isiOk c = true then (tyName d).map fun t => .bl (t == c || (t == "bool" && c == "int")) else none
  | _ => none
theorem kit_ty (K : PySem.W.Frag) (t c : String) (ht : t = "NoneType" ∨ t = "bool" ∨ t = "int" ∨ t = "str" ∨ t = "tuple" ∨ t = "list" ∨ t = "dict") (hc : isiOk c = true) : PySem.W.kitOne K (.type t) (.type c) = some (t == c || (t == "bool" && c == "int")) := by
  unfold isiOk at hc
  simp only [Bool.or_eq_true, beq_iff_eq] at hc
  rcases hc with ((((rfl | rfl) | rfl) | rfl) | rfl) | rfl <;> rcases ht with rfl | rfl | rfl | rfl | rfl | rfl | rfl <;> rfl
theorem ty_of {K : PySem.W.Frag} {H : Hp} {d : D} {v : V} {t : String} (h : Rp K cl H d v) (e : tyName d = some t) : TyX K H v (.type t) ∧ (t = "NoneType" ∨ t = "bool" ∨ t = "int" ∨ t = "str" ∨ t = "tuple" ∨ t = "list" ∨ t = "dict") := by
  cases d <;> simp only [tyName, Option.some.injEq] at e <;> try (cases e; done)
  all_goals (subst e; simp only [Rp] at h)
  · subst h; exact ⟨.base .non, by simp⟩
  · subst h; exact ⟨.base (.bl _), by simp⟩
  · subst h; exact ⟨.base (.int _), by simp⟩
  · subst h; exact ⟨.base (.str _), by simp⟩
  · obtain ⟨a, vs, rfl, h2, h3⟩ := h
    refine ⟨?_, by simp⟩
    rcases h2 with (h2 | ⟨o, h2⟩) | ⟨o, its, n, h2, h3, _⟩
    · exact .base (.tup h2)
    · exact .fTuple h2
    · exact .kTuple h2 h3
  · obtain ⟨a, vs, rfl, h2, h3⟩ := h
    exact ⟨.base (.lst h2), by simp⟩
  · obtain ⟨a, vs, rfl, h2, h3⟩ := h
    exact ⟨.base (.dK h2), by simp⟩
theorem o_isi : OpN X cl (.builtin "isinstance") fIsi := ⟨_, call_isi, fun P H xs ds d Q hP hx e q => by
  unfold fIsi at e
  split at e
  · split at e
    · rename_i hc
      obtain ⟨t, e1, rfl⟩ := Option.map_eq_some_iff.mp e
      obtain ⟨v, w, rfl, h1, h2⟩ := rps2 hx
      obtain ⟨h3, h4⟩ := ty_of (Rp.ex (hide_ex H P) _ _ h1) e1
      simp only [Rp] at h2
      subst h2
      exact ⟨v, _, _, _, _, rfl, .ty _, h3, kit_ty _ _ _ h4 hc, q _ H (Ex.refl H) (by simp only [Rp])⟩
    · cases e
  · cases e⟩
theorem de_ty {n : String} (hg : Gl X x) (hm : X.mg x = none) (hv : bootBuiltins x = some (.type n)) (hn : x ≠ "__name__" := by decide) (hd : (x == ("__debug__" : Str)) = false := by decide) : PE X (.Name x pos) (wE X.K cl Z (mC (.ty n))) :=
  de_c (pe_bltn (v := .ty n) hg hm hv rfl hn hd) fun H => by simp only [Rp]

/-! ### methods of texts -/
def strsOf : List D → Option (List Str)
  | [] => some []
  | .str b :: ds => (strsOf ds).map fun r => b :: r
  | _ => none
theorem strs_rp {K : PySem.W.Frag} {H : Hp} : ∀ {ds : List D} {vs : List V} {bs : List Str}, Rps K cl H ds vs → strsOf ds = some bs → vs = bs.map V.str
  | [], vs, bs, h, e => by simp only [Rps] at h; simp only [strsOf, Option.some.injEq] at e; subst h; subst e; rfl
  | d :: ds, vs, bs, h, e => by
    simp only [Rps] at h
    obtain ⟨v, r, rfl, h1, h2⟩ := h
    cases d <;> simp only [strsOf] at e <;> try (cases e; done)
    obtain ⟨bs', e1, rfl⟩ := Option.map_eq_some_iff.mp e
    simp only [Rp] at h1
    subst h1
    rw [strs_rp h2 e1]
    rfl
theorem rps_strs {K : PySem.W.Frag} {H : Hp} : ∀ (bs : List Str), Rps K cl H (bs.map D.str) (bs.map V.str)
  | [] => Rps.nil
  | b :: bs => Rps.cons (by simp only [Rp]) (rps_strs bs)
def asStr : D → Option Str
  | .str a => some a
  | _ => none
def opSplit (a : Str) : D → Option D
  | .str b => if (b.length == 0) = false ∧ a.length + 2 ≤ sizeLine then some (.lst ((Txt.split a b).map D.str)) else none
  | _ => none
def opJoin (a : Str) : D → Option D
  | .lst ds => (strsOf ds).bind fun ys => if (ys.map (·.length)).sum + ys.length * a.length ≤ 16777216 then some (.str (Txt.join a ys)) else none
  | .tup ds => (strsOf ds).bind fun ys => if (ys.map (·.length)).sum + ys.length * a.length ≤ 16777216 then some (.str (Txt.join a ys)) else none
  | _ => none
variable {o : Expr} {mo : ME} {apos : Pos}
def mM1 (f : Str → D → Option D) (ma mb : ME) : ME := fun ρ => (ma ρ).bind fun x => (lft (asStr x.1)).bind fun a => (mb x.2).bind fun y => (lft (f a y.1)).bind fun d => .ok (d, y.2)
def PM1 (K : PySem.W.Frag) (cl : Nat → Addr) (r : V → List V → Hp → VK → Prop) (f : Str → D → Option D) : Prop := ∀ (P : Addr → Prop) (H : Hp) (a : Str) (y : V) (dy d : D) (Q : VK), (∀ a, P a → H a ≠ none) →
  Rp K cl (hide H P) dy y → f a dy = some d → (∀ v H', Ex H H' → Rp K cl (hide H' P) d v → Q v H') → r (.str a) [y] H Q
theorem de_m1 {r : V → List V → Hp → VK → Prop} {f : Str → D → Option D} (z : ZOk X.K cl Z) (hp : PM1 X.K cl r f) (h : PE X e (tM1 r (wE X.K cl Z ma) (wE X.K cl Z mb))) : PE X e (wE X.K cl Z (mM1 f ma mb)) := h.wk fun σ H Q ⟨ρ, O, rr, g⟩ =>
  wE_then z rr g fun d1 ρ1 v H1 p1 g1 => by
    obtain ⟨a, e1, g2⟩ := Gd.lft g1
    cases d1 <;> simp only [asStr] at e1 <;> try (cases e1; done)
    cases e1
    have hv := p1.val
    simp only [Rp] at hv
    subst hv
    refine ⟨⟨_, rfl⟩, wE_then z p1.po.rel g2 fun d2 ρ2 w H2 p2 g3 => ?_⟩
    obtain ⟨d, e2, g4⟩ := Gd.lft g3
    exact hp (hid O ρ2 σ) H2 _ w d2 d Q (fun a ha => p2.po.rel.hid_some ha) p2.val e2 fun u H' ex hu => g4 u H' ((p1.poT.seq p2.poT).lays ex hu)
theorem de_split (z : ZOk X.K cl Z) (ho : PE X o (wE X.K cl Z mo)) (he : PE X e (wE X.K cl Z mb)) (hs : starEach [e] X.env = [(false, eval e X.env)] := by rfl) (hbase : attributeBase o "split" X.env (eval o X.env) = eval o X.env := by rfl) (hline : (apos.endLine == pos.line) = true := by rfl) :
    PE X (.Call (.Attribute o "split" apos) [e] [] pos) (wE X.K cl Z (mM1 opSplit mo mb)) :=
  de_m1 z (fun P H a y dy d Q hP hy e q => by
    cases dy <;> simp only [opSplit] at e <;> try (cases e; done)
    split at e
    · rename_i hz
      cases e
      simp only [Rp] at hy
      subst hy
      refine ⟨a, _, rfl, rfl, hz.1, hz.2, fun t ht => q _ _ (Ex.new ht) ?_⟩
      simp only [Rp]
      exact ⟨t, _, rfl, new_seen hP ht, rps_strs _⟩
    · cases e) (pe_split ho he hs hbase hline)
theorem de_join (z : ZOk X.K cl Z) (ho : PE X o (wE X.K cl Z mo)) (he : PE X e (wE X.K cl Z mb)) (hs : starEach [e] X.env = [(false, eval e X.env)] := by rfl) (hbase : attributeBase o "join" X.env (eval o X.env) = eval o X.env := by rfl) (hline : (apos.endLine == pos.line) = true := by rfl) :
    PE X (.Call (.Attribute o "join" apos) [e] [] pos) (wE X.K cl Z (mM1 opJoin mo mb)) :=
  de_m1 z (fun P H a y dy d Q hP hy e q => by
    unfold opJoin at e
    split at e
    · obtain ⟨ys, e1, e2⟩ := Option.bind_eq_some_iff.mp e
      split at e2
      · rename_i hz
        cases e2
        simp only [Rp] at hy
        obtain ⟨p, vs, rfl, h2, h3⟩ := hy
        have := strs_rp h3 e1
        subst this
        exact ⟨a, p, ys, rfl, rfl, .inl (SqL.of (hide_at h2)), hz, q _ H (Ex.refl H) (by simp only [Rp])⟩
      · cases e2
    · obtain ⟨ys, e1, e2⟩ := Option.bind_eq_some_iff.mp e
      split at e2
      · rename_i hz
        cases e2
        simp only [Rp] at hy
        obtain ⟨p, vs, rfl, h2, h3⟩ := hy
        have := strs_rp h3 e1
        subst this
        exact ⟨a, p, ys, rfl, rfl, .inr (hide_seqT h2), hz, q _ H (Ex.refl H) (by simp only [Rp])⟩
      · cases e2
    · cases e) (pe_join ho he hs hbase hline)
end
end DF
namespace DF
open PySem PySem.Spec L2 Evl

section
variable {X : Cx} {cl : Nat → Addr} {Z : ZK} {K : PySem.W.Frag} {O : Addr → Prop} {ρ ρ' ρ1 ρ2 : Env} {σ σ' σ1 σ2 : L2.St} {H H' H1 H2 : Hp}

/-! ### stores -/
theorem kd_set_ne {i j : Nat} {s : Slot} (h : j ≠ i) : kd (ρ.set i s) j = kd ρ j := by
  unfold kd
  rw [List.getElem?_set_ne (Ne.symm h)]
theorem kd_val {i : Nat} {d : D} (h : ρ[i]? = some (.val d)) : kd ρ i = 0 := by unfold kd; rw [h]
theorem kd_un {i : Nat} (h : ρ[i]? = some .un) : kd ρ i = 0 := by unfold kd; rw [h]
theorem kd_none {i : Nat} (h : ρ[i]? = none) : kd ρ i = 0 := by unfold kd; rw [h]
theorem kd_own {i : Nat} {c : Ct} (h : ρ[i]? = some (.own c)) : kd ρ i = 1 := by unfold kd; rw [h]
theorem kd_pin {i : Nat} {c : Ct} (h : ρ[i]? = some (.pin c)) : kd ρ i = 2 := by unfold kd; rw [h]
theorem hid_sub (h : ∀ i a, kd ρ' i = 1 → σ'[i]? = some (some (.ref a)) → kd ρ i = 1 ∧ σ[i]? = some (some (.ref a))) : ∀ a, hid O ρ' σ' a → hid O ρ σ a := fun a q => by
  rcases q with q | ⟨i, q1, q2⟩
  · exact .inl q
  · obtain ⟨h1, h2⟩ := h i a q1 q2
    exact .inr ⟨i, h1, h2⟩
theorem set_cases {α : Type} {l : List α} {i j : Nat} {x s : α} (h : (l.set i x)[j]? = some s) : (j = i ∧ i < l.length ∧ s = x) ∨ (j ≠ i ∧ l[j]? = some s) := by
  by_cases e : j = i
  · subst e
    have hl : j < l.length := by
      have := (List.getElem?_eq_some_iff.mp h).1
      simpa using this
    rw [List.getElem?_set_self hl] at h
    exact .inl ⟨rfl, hl, (Option.some.inj h).symm⟩
  · rw [List.getElem?_set_ne (Ne.symm e)] at h
    exact .inr ⟨e, h⟩
/-- a value, or nothing, goes to a slot -/
theorem Rel.store0 (r : Rel K cl O ρ σ H) (i : Nat) (s : Slot) (w : Option V) (hs : kd (ρ.set i s) i = 0) (h : i < ρ.length → SlotOk K cl O (ρ.set i s) (σ.set i w) H i s) : Rel K cl O (ρ.set i s) (σ.set i w) H := by
  have sub : ∀ a, hid O (ρ.set i s) (σ.set i w) a → hid O ρ σ a := hid_sub fun j a q1 q2 => by
    have ne : j ≠ i := fun z => by rw [z, hs] at q1; cases q1
    rw [kd_set_ne ne] at q1
    rw [List.getElem?_set_ne (Ne.symm ne)] at q2
    exact ⟨q1, q2⟩
  have ex : Ex (vis O ρ σ H) (vis O (ρ.set i s) (σ.set i w) H) := hide_le sub
  refine ⟨by simp [r.len], fun j t ht => ?_, fun j k a h1 h2 h3 h4 => ?_, r.dom⟩
  · rcases set_cases ht with ⟨rfl, hl, rfl⟩ | ⟨ne, ht⟩
    · exact h hl
    · have q := r.at_ j t ht
      cases t with
      | un => trivial
      | val d =>
        obtain ⟨v, q1, q2⟩ := q
        exact ⟨v, by rw [List.getElem?_set_ne (Ne.symm ne)]; exact q1, Rp.ex ex _ _ q2⟩
      | own c =>
        obtain ⟨v, q1, q2, q3⟩ := q
        exact ⟨v, by rw [List.getElem?_set_ne (Ne.symm ne)]; exact q1, q2, q3.ex ex fun _ e => e⟩
      | pin c =>
        obtain ⟨v, q1, q2, q3⟩ := q
        exact ⟨v, by rw [List.getElem?_set_ne (Ne.symm ne)]; exact q1, q2, q3.ex ex fun _ e => e⟩
  · have n1 : j ≠ i := fun z => h1 (by rw [z]; exact hs)
    have n2 : k ≠ i := fun z => h2 (by rw [z]; exact hs)
    rw [kd_set_ne n1] at h1
    rw [kd_set_ne n2] at h2
    rw [List.getElem?_set_ne (Ne.symm n1)] at h3
    rw [List.getElem?_set_ne (Ne.symm n2)] at h4
    exact r.dist j k a h1 h2 h3 h4
theorem kd_set_val {i : Nat} {d : D} : kd (ρ.set i (.val d)) i = 0 := by
  unfold kd
  by_cases h : i < ρ.length
  · rw [List.getElem?_set_self h]
  · rw [List.getElem?_eq_none (by simpa using h)]
theorem kd_set_un {i : Nat} : kd (ρ.set i .un) i = 0 := by
  unfold kd
  by_cases h : i < ρ.length
  · rw [List.getElem?_set_self h]
  · rw [List.getElem?_eq_none (by simpa using h)]
theorem Rel.store_val (r : Rel K cl O ρ σ H) (i : Nat) {d : D} {v : V} (h : Rp K cl (vis O ρ σ H) d v) : Rel K cl O (ρ.set i (.val d)) (σ.set i (some v)) H := by
  refine r.store0 i _ _ kd_set_val fun hl => ⟨v, List.getElem?_set_self (by rw [← r.len]; exact hl), Rp.ex ?_ _ _ h⟩
  exact hide_le (hid_sub fun j a q1 q2 => by
    have ne : j ≠ i := fun z => by rw [z, kd_set_val] at q1; cases q1
    rw [kd_set_ne ne] at q1
    rw [List.getElem?_set_ne (Ne.symm ne)] at q2
    exact ⟨q1, q2⟩)
theorem Rel.store_un (r : Rel K cl O ρ σ H) (i : Nat) (w : Option V) : Rel K cl O (ρ.set i .un) (σ.set i w) H := r.store0 i _ _ kd_set_un fun _ => trivial
theorem Rel.own_store (r : Rel K cl (ins O p) ρ σ H) (hp : ¬ O p) (i : Nat) {c : Ct} (hc : Rc K cl (vis (ins O p) ρ σ H) H c p) (hi : i < ρ.length) (hpin : ∀ j, kd ρ j = 2 → ∃ a, σ[j]? = some (some (.ref a)) ∧ O a) :
    Rel K cl O (ρ.set i (.own c)) (σ.set i (some (.ref p))) H := by
  have hiσ : i < σ.length := by rw [← r.len]; exact hi
  have ki : kd (ρ.set i (.own c)) i = 1 := kd_own (List.getElem?_set_self hi)
  have sub : ∀ a, hid O (ρ.set i (.own c)) (σ.set i (some (.ref p))) a → hid (ins O p) ρ σ a := fun a q => by
    rcases q with q | ⟨j, q1, q2⟩
    · exact .inl (.inl q)
    · by_cases e : j = i
      · subst e
        rw [List.getElem?_set_self hiσ] at q2
        cases q2
        exact .inl (.inr rfl)
      · rw [kd_set_ne e] at q1
        rw [List.getElem?_set_ne (Ne.symm e)] at q2
        exact .inr ⟨j, q1, q2⟩
  have ex : Ex (vis (ins O p) ρ σ H) (vis O (ρ.set i (.own c)) (σ.set i (some (.ref p))) H) := hide_le sub
  have nep : ∀ j a, kd ρ j ≠ 0 → σ[j]? = some (some (.ref a)) → a ≠ p := fun j a h1 h2 z => by
    subst z
    rcases kd_le ρ j with q | q | q
    · exact h1 q
    · obtain ⟨c', p', _, e, n, _⟩ := r.own_at q
      rw [h2] at e; cases e
      exact n (.inr rfl)
    · obtain ⟨a', e, o⟩ := hpin j q
      rw [h2] at e; cases e
      exact hp o
  refine ⟨by simp [r.len], fun j t ht => ?_, fun j k a h1 h2 h3 h4 => ?_, fun a h => r.dom a (.inl h)⟩
  · rcases set_cases ht with ⟨rfl, hl, rfl⟩ | ⟨ne, ht⟩
    · exact ⟨p, List.getElem?_set_self hiσ, hp, hc.ex ex fun _ e => e⟩
    · have q := r.at_ j t ht
      cases t with
      | un => trivial
      | val d =>
        obtain ⟨v, q1, q2⟩ := q
        exact ⟨v, by rw [List.getElem?_set_ne (Ne.symm ne)]; exact q1, Rp.ex ex _ _ q2⟩
      | own c =>
        obtain ⟨v, q1, q2, q3⟩ := q
        exact ⟨v, by rw [List.getElem?_set_ne (Ne.symm ne)]; exact q1, fun z => q2 (.inl z), q3.ex ex fun _ e => e⟩
      | pin c =>
        obtain ⟨v, q1, q2, q3⟩ := q
        obtain ⟨a, e, o⟩ := hpin j (kd_pin ht)
        rw [q1] at e; cases e
        exact ⟨v, by rw [List.getElem?_set_ne (Ne.symm ne)]; exact q1, o, q3.ex ex fun _ e => e⟩
  · by_cases n1 : j = i
    · by_cases n2 : k = i
      · rw [n1, n2]
      · rw [kd_set_ne n2] at h2
        rw [n1, List.getElem?_set_self hiσ] at h3
        cases h3
        rw [List.getElem?_set_ne (Ne.symm n2)] at h4
        exact absurd rfl (nep k p h2 h4)
    · by_cases n2 : k = i
      · rw [kd_set_ne n1] at h1
        rw [n2, List.getElem?_set_self hiσ] at h4
        cases h4
        rw [List.getElem?_set_ne (Ne.symm n1)] at h3
        exact absurd rfl (nep j p h1 h3)
      · rw [kd_set_ne n1] at h1
        rw [kd_set_ne n2] at h2
        rw [List.getElem?_set_ne (Ne.symm n1)] at h3
        rw [List.getElem?_set_ne (Ne.symm n2)] at h4
        exact r.dist j k a h1 h2 h3 h4
/-- .. as steps -/
theorem Po.set_val (r : Rel K cl O ρ σ H) (i : Nat) {d : D} {v : V} (h : Rp K cl (vis O ρ σ H) d v) (hk : kd ρ i ≠ 2) : Po K cl O ρ σ H (ρ.set i (.val d)) (σ.set i (some v)) H := by
  refine ⟨Fr.refl H, fun a ⟨j, q1, q2⟩ => ?_, r.store_val i h, fun j hj => ?_⟩
  · have ne : j ≠ i := fun z => q1 (by rw [z]; exact kd_set_val)
    rw [kd_set_ne ne] at q1
    rw [List.getElem?_set_ne (Ne.symm ne)] at q2
    exact .inl ⟨j, q1, q2⟩
  · have ne : j ≠ i := fun z => hk (by rw [← z]; exact hj)
    exact ⟨by rw [kd_set_ne ne]; exact hj, List.getElem?_set_ne (Ne.symm ne)⟩
theorem Po.set_un (r : Rel K cl O ρ σ H) (i : Nat) (w : Option V) (hk : kd ρ i ≠ 2) : Po K cl O ρ σ H (ρ.set i .un) (σ.set i w) H := by
  refine ⟨Fr.refl H, fun a ⟨j, q1, q2⟩ => ?_, r.store_un i w, fun j hj => ?_⟩
  · have ne : j ≠ i := fun z => q1 (by rw [z]; exact kd_set_un)
    rw [kd_set_ne ne] at q1
    rw [List.getElem?_set_ne (Ne.symm ne)] at q2
    exact .inl ⟨j, q1, q2⟩
  · have ne : j ≠ i := fun z => hk (by rw [← z]; exact hj)
    exact ⟨by rw [kd_set_ne ne]; exact hj, List.getElem?_set_ne (Ne.symm ne)⟩
/-- where pins lie -/
theorem Rel.pins (r : Rel K cl O ρ σ H) {ρ1 : Env} (sh : ∀ i, kd ρ i = kd ρ1 i) : ∀ j, kd ρ1 j = 2 → ∃ a, σ[j]? = some (some (.ref a)) ∧ O a := fun j h => by
  obtain ⟨c, a, _, e, o, _⟩ := r.pin_at (show kd ρ j = 2 by rw [sh j]; exact h)
  exact ⟨a, e, o⟩
theorem PoL.set (r : Rel K cl O ρ σ H) {c : Ct} {p : Addr} (q : PoL K cl O ρ σ H c ρ1 p H1) (i : Nat) (hi : i < ρ1.length) (hk : kd ρ1 i ≠ 2) : Po K cl O ρ σ H (ρ1.set i (.own c)) (σ.set i (some (.ref p))) H1 := by
  have np : ¬ O p := fun z => r.dom p z q.new
  have hiσ : i < σ.length := by rw [← q.rel.len]; exact hi
  refine ⟨q.fr, fun a ⟨j, q1, q2⟩ => ?_, q.rel.own_store np i q.val hi (r.pins q.sh), fun j hj => ?_⟩
  · by_cases e : j = i
    · rw [e, List.getElem?_set_self hiσ] at q2
      cases q2
      exact .inr q.new
    · rw [kd_set_ne e] at q1
      rw [List.getElem?_set_ne (Ne.symm e)] at q2
      exact .inl ⟨j, by rw [q.sh j]; exact q1, q2⟩
  · have ne : j ≠ i := fun z => hk (by rw [← z, ← q.sh j]; exact hj)
    exact ⟨by rw [kd_set_ne ne, ← q.sh j]; exact hj, List.getElem?_set_ne (Ne.symm ne)⟩

/-! ### right sides -/
abbrev MR := Env → Res (Slot × Env)
def PoR (K : PySem.W.Frag) (cl : Nat → Addr) (O : Addr → Prop) (ρ : Env) (σ : L2.St) (H : Hp) (s : Slot) (ρ' : Env) (v : V) (H' : Hp) : Prop := match s with
  | .val d => PoE K cl O ρ σ H d ρ' v H'
  | .own c => ∃ p, v = .ref p ∧ PoL K cl O ρ σ H c ρ' p H'
  | _ => False
def wR (K : PySem.W.Frag) (cl : Nat → Addr) (Z : ZK) (m : MR) : TE := fun σ H Q => ∃ ρ O, Rel K cl O ρ σ H ∧ Gd (m ρ) (fun x => ∀ v H', PoR K cl O ρ σ H x.1 x.2 v H' → Q v H') (Z O ρ σ H)
def mVal (m : ME) : MR := fun ρ => (m ρ).bind fun x => .ok (.val x.1, x.2)
def mOwn (m : ML) : MR := fun ρ => (m ρ).bind fun x => .ok (.own x.1, x.2)
variable {a b c e : Expr} {ma mb mc : ME} {pos : Pos} {st : Stmt} {sts : List Stmt}
theorem dr_val (h : PE X e (wE X.K cl Z ma)) : PE X e (wR X.K cl Z (mVal ma)) := h.wk fun σ H Q ⟨ρ, O, r, g⟩ => ⟨ρ, O, r, (Gd.bind.mp g).mono (fun x q v H' p => q v H' p) fun _ _ _ w => w⟩
theorem dr_own {ml : ML} (h : PE X e (wL X.K cl Z ml)) : PE X e (wR X.K cl Z (mOwn ml)) := h.wk fun σ H Q ⟨ρ, O, r, g⟩ => ⟨ρ, O, r, (Gd.bind.mp g).mono (fun x q v H' p => q _ H' ⟨v, rfl, p⟩) fun _ _ _ w => w⟩

theorem wr_own {ml : ML} {σ : L2.St} {H : Hp} {Q : VK} (h : wR K cl Z (mOwn ml) σ H Q) : wL K cl Z ml σ H Q := by
  obtain ⟨ρ, O, r, g⟩ := h
  exact ⟨ρ, O, r, (Gd.bind.mp g).mono (fun x q p H' w => q _ H' ⟨p, rfl, w⟩) fun _ _ _ w => w⟩
theorem wr_val {ml : ML} {σ : L2.St} {H : Hp} {Q : VK} (h : wR X.K cl Z (mVal (mOfL ml)) σ H Q) : wL X.K cl Z ml σ H Q := by
  obtain ⟨ρ, O, r, g⟩ := h
  exact ⟨ρ, O, r, (Gd.bind.mp (Gd.bind.mp g)).mono (fun x q p H' w => q _ H' (w.toE r)) fun _ _ _ w => w⟩

/-! ### statements -/
def mSet (i : Nat) (m : MR) : MS := fun ρ => (m ρ).bind fun x => if kd x.2 i ≠ 2 ∧ i < x.2.length then .ok (.nxt (x.2.set i x.1)) else .bad
theorem ds_setT {i : Nat} {te : TE} {mr : MR} (h : PS X st (tAsg te (gName i))) (k : ∀ σ H Q, wR X.K cl Z mr σ H Q → te σ H Q) : PS X st (wS X.K cl Z (mSet i mr)) :=
  h.wk fun D σ H ⟨ρ, O, r, g⟩ => k _ _ _ ⟨ρ, O, r, (Gd.bind.mp g).mono (fun y q v H' p => by
    split at q
    · rename_i hz
      obtain ⟨s, ρ1⟩ := y
      cases s with
      | un => exact p.elim
      | pin c => exact p.elim
      | val d => exact q _ _ (p.po.trans (Po.set_val p.po.rel i p.val hz.1))
      | own c =>
        obtain ⟨t, rfl, p⟩ := p
        exact q _ _ (p.set r i hz.2 hz.1)
    · exact q.elim) fun _ _ _ w => w⟩
theorem ds_set {i : Nat} {x : Str} {pos' : Pos} {mr : MR} (hN : X.N.Nodup) (hi : X.N[i]? = some x) (hx : Loc X.env.scope x) (he : PE X e (wR X.K cl Z mr)) (hs : swapsWith e (some (.Name x pos')) pos.line X.env = pure false := by rfl)
    (hf : X.fn x = true ∨ X.env.scope.names.lookup x = some .local := by first | exact .inl rfl | exact .inr rfl | assumption) : PS X (.Assign [.Name x pos'] e pos) (wS X.K cl Z (mSet i mr)) :=
  ds_setT (ps_set hN hi hx he hs hf) fun _ _ _ q => q
def mRet (m : ME) : MS := fun ρ => (m ρ).bind fun x => .ok (.ret x.1 x.2)
theorem ds_ret (he : PE X e (wE X.K cl Z ma)) : PS X (.Return (some e) pos) (wS X.K cl Z (mRet ma)) :=
  (ps_ret he).wk fun D σ H ⟨ρ, O, r, g⟩ => ⟨ρ, O, r, (Gd.bind.mp g).mono (fun y q v H' p => q v σ H' p.po p.val) fun _ _ _ w => w⟩
def mRetN : MS := fun ρ => .ok (.ret .non ρ)
theorem ds_retN : PS X (.Return none pos) (wS X.K cl Z mRetN) := ps_retN.wk fun D σ H ⟨ρ, O, r, g⟩ => g .non σ H (Po.refl r) (by simp only [Rp])
def mDrop (m : ME) : MS := fun ρ => (m ρ).bind fun x => .ok (.nxt x.2)
theorem ds_expr (he : PE X e (wE X.K cl Z ma)) (hs : swapsWith e none pos.line X.env = pure false := by rfl) : PS X (.Expr e pos) (wS X.K cl Z (mDrop ma)) :=
  (ps_expr he hs).wk fun D σ H ⟨ρ, O, r, g⟩ => ⟨ρ, O, r, (Gd.bind.mp g).mono (fun y q v H' p => q σ H' p.po) fun _ _ _ w => w⟩
def mNever : MS := fun _ => .bad
theorem ds_never : PS X st (wS X.K cl Z mNever) := ps_never.wk fun D σ H ⟨ρ, O, r, g⟩ => g
def mPass : MS := fun ρ => .ok (.nxt ρ)
theorem ds_pass : PS X (.Pass pos) (wS X.K cl Z mPass) := ps_pass.wk fun D σ H ⟨ρ, O, r, g⟩ => g σ H (Po.refl r)
def mBrk : MS := fun ρ => .ok (.brk ρ)
def mCnt : MS := fun ρ => .ok (.cnt ρ)
theorem ds_brk : PS X (.Break pos) (wS X.K cl Z mBrk) := ps_break.wk fun D σ H ⟨ρ, O, r, g⟩ => g σ H (Po.refl r)
theorem ds_cnt : PS X (.Continue pos) (wS X.K cl Z mCnt) := ps_continue.wk fun D σ H ⟨ρ, O, r, g⟩ => g σ H (Po.refl r)
theorem ds_nil : PSs X [] (wS X.K cl Z mPass) := pss_nil.wk fun D σ H ⟨ρ, O, r, g⟩ => g σ H (Po.refl r)
/-- what stands behind a step, seen from ahead of it -/
theorem SOk.lift {D : Ends} {o : Out} (p : Po K cl O ρ σ H ρ1 σ1 H1) (h : SOk K cl O ρ σ H D o) : SOk K cl O ρ1 σ1 H1 D o := by
  cases o with
  | nxt ρ2 => exact fun σ' H' q => h σ' H' (p.trans q)
  | brk ρ2 => exact fun σ' H' q => h σ' H' (p.trans q)
  | cnt ρ2 => exact fun σ' H' q => h σ' H' (p.trans q)
  | ret d ρ2 => exact fun v σ' H' q w => h v σ' H' (p.trans q) w
theorem Gd.slift {D : Ends} {g : Res Out} (z : ZOk K cl Z) (r : Rel K cl O ρ σ H) (p : Po K cl O ρ σ H ρ1 σ1 H1) (h : Gd g (SOk K cl O ρ σ H D) (Z O ρ σ H)) : Gd g (SOk K cl O ρ1 σ1 H1 D) (Z O ρ1 σ1 H1) :=
  h.mono (fun _ q => q.lift p) fun _ _ _ w => z.mono r p w
def mSeq (m1 m2 : MS) : MS := fun ρ => (m1 ρ).bind fun o => match o with
  | .nxt ρ' => m2 ρ'
  | o => .ok o
variable {m1 m2 : MS} {mt : MT}
theorem ds_cons (z : ZOk X.K cl Z) (h1 : PS X st (wS X.K cl Z m1)) (h2 : PSs X sts (wS X.K cl Z m2)) : PSs X (st :: sts) (wS X.K cl Z (mSeq m1 m2)) :=
  (pss_cons h1 h2).wk fun D σ H ⟨ρ, O, r, g⟩ => ⟨ρ, O, r, (Gd.bind.mp g).mono (fun o q => by
    cases o with
    | nxt ρ1 => exact fun σ1 H1 p => ⟨ρ1, O, p.rel, Gd.slift z r p q⟩
    | brk ρ1 => exact q
    | cnt ρ1 => exact q
    | ret d ρ1 => exact q) fun _ _ _ w => w⟩
theorem ds_one (h : PS X st (wS X.K cl Z m1)) : PSs X [st] (wS X.K cl Z m1) := pss_one h
def mIfS (mt : MT) (m1 m2 : MS) : MS := fun ρ => (mt ρ).bind fun x => if x.1 = true then m1 x.2 else m2 x.2
theorem ds_if {sts' : List Stmt} (z : ZOk X.K cl Z) (hc : PT X c (wT X.K cl Z mt)) (h1 : PSs X sts (wS X.K cl Z m1)) (h2 : PSs X sts' (wS X.K cl Z m2)) : PS X (.If c sts sts' pos) (wS X.K cl Z (mIfS mt m1 m2)) :=
  (ps_if hc h1 h2).wk fun D σ H ⟨ρ, O, r, g⟩ => wT_then z r g fun k ρ1 H1 p g1 => by
    cases k with
    | true => exact ⟨ρ1, O, p.po.rel, g1.mono (fun _ q => q.lift p.po) fun _ _ _ w => w⟩
    | false => exact ⟨ρ1, O, p.po.rel, g1.mono (fun _ q => q.lift p.po) fun _ _ _ w => w⟩

/-! ### freezing: what was the frame's own is a value from here on -/
def frz (i : Nat) (ρ : Env) : Env := match ρ[i]? with
  | some (.own c) => ρ.set i (.val c.toD)
  | _ => ρ
theorem Rc.toRp {Hv : Hp} {P : Addr → Prop} {c : Ct} {p : Addr} (h : Rc K cl Hv H c p) (ex : Ex Hv (hide H P)) (np : ¬ P p) : Rp K cl (hide H P) c.toD (.ref p) := by
  cases c with
  | lst ds =>
    obtain ⟨vs, h1, h2⟩ := h
    simp only [Ct.toD, Rp]
    exact ⟨p, vs, rfl, hide_some.mpr ⟨np, h1⟩, Rps.ex ex _ _ h2⟩
  | dct ds =>
    obtain ⟨vs, h1, h2⟩ := h
    simp only [Ct.toD, Rp]
    exact ⟨p, vs, rfl, hide_some.mpr ⟨np, h1⟩, Rkv.ex ex _ _ h2⟩
theorem Po.frz (r : Rel K cl O ρ σ H) (i : Nat) : Po K cl O ρ σ H (frz i ρ) σ H := by
  unfold DF.frz
  split
  · rename_i c e
    obtain ⟨p, h1, h2, h3⟩ := r.at_ i _ e
    have k1 : kd ρ i = 1 := kd_own e
    have hl : i < ρ.length := (List.getElem?_eq_some_iff.mp e).1
    have sub : ∀ a, hid O (ρ.set i (.val c.toD)) σ a → hid O ρ σ a := hid_sub fun j a q1 q2 => by
      have ne : j ≠ i := fun z => by rw [z, kd_set_val] at q1; cases q1
      rw [kd_set_ne ne] at q1
      exact ⟨q1, q2⟩
    have ex : Ex (vis O ρ σ H) (vis O (ρ.set i (.val c.toD)) σ H) := hide_le sub
    have np : ¬ hid O (ρ.set i (.val c.toD)) σ p := fun z => by
      rcases z with z | ⟨j, q1, q2⟩
      · exact h2 z
      · have ne : j ≠ i := fun z => by rw [z, kd_set_val] at q1; cases q1
        rw [kd_set_ne ne] at q1
        exact ne (r.dist j i p (by rw [q1]; decide) (by rw [k1]; decide) q2 h1)
    have hσ : σ.set i (some (.ref p)) = σ := by
      apply List.ext_getElem?
      intro j
      by_cases hj : j = i
      · subst hj
        rw [List.getElem?_set_self (by rw [← r.len]; exact hl), h1]
      · rw [List.getElem?_set_ne (Ne.symm hj)]
    have rel := r.store0 i (.val c.toD) (some (.ref p)) kd_set_val fun _ => by
      rw [hσ]
      exact ⟨.ref p, h1, h3.toRp ex np⟩
    rw [hσ] at rel
    refine ⟨Fr.refl H, fun a ⟨j, q1, q2⟩ => ?_, rel, fun j hj => ⟨?_, rfl⟩⟩
    · have ne : j ≠ i := fun z => q1 (by rw [z]; exact kd_set_val)
      rw [kd_set_ne ne] at q1
      exact .inl ⟨j, q1, q2⟩
    · have ne : j ≠ i := fun z => by rw [z, k1] at hj; cases hj
      rw [kd_set_ne ne]; exact hj
  · exact Po.refl r
def mFrz (i : Nat) (m : MS) : MS := fun ρ => m (frz i ρ)
theorem ds_frz (z : ZOk X.K cl Z) (i : Nat) (h : PS X st (wS X.K cl Z m1)) : PS X st (wS X.K cl Z (mFrz i m1)) := h.wk fun D σ H ⟨ρ, O, r, g⟩ => by
  -- what is wanted ahead of the freezing is wanted behind it; an error's wish, too
  have p := Po.frz r i
  exact ⟨DF.frz i ρ, O, p.rel, Gd.slift z r p g⟩

/-! ### targets -/
abbrev MG := D → Env → Res Env
def SameOff (ws : List Nat) (σ σ' : L2.St) : Prop := σ'.length = σ.length ∧ ∀ j, j ∉ ws → σ'[j]? = σ[j]?
def EOff (ws : List Nat) (ρ ρ' : Env) : Prop := ∀ j, j ∉ ws → ρ'[j]? = ρ[j]?
theorem EOff.refl {ws : List Nat} : EOff ws ρ ρ := fun _ _ => rfl
theorem EOff.trans {ws vs : List Nat} (h : EOff ws ρ ρ1) (q : EOff vs ρ1 ρ2) : EOff (ws ++ vs) ρ ρ2 := fun j hj => by
  simp only [List.mem_append, not_or] at hj
  rw [q j hj.2, h j hj.1]
theorem SameOff.refl {ws : List Nat} : SameOff ws σ σ := ⟨rfl, fun _ _ => rfl⟩
theorem SameOff.trans {ws vs : List Nat} (h : SameOff ws σ σ1) (q : SameOff vs σ1 σ2) : SameOff (ws ++ vs) σ σ2 := ⟨q.1.trans h.1, fun j hj => by
  simp only [List.mem_append, not_or] at hj
  rw [q.2 j hj.2, h.2 j hj.1]⟩
def wG (K : PySem.W.Frag) (cl : Nat → Addr) (Z : ZK) (ws : List Nat) (g : MG) : TG := fun v σ H Q => ∃ ρ O d, Rel K cl O ρ σ H ∧ Rp K cl (vis O ρ σ H) d v ∧ Gd (g d ρ) (fun ρ' => ∀ σ', Po K cl O ρ σ H ρ' σ' H → SameOff ws σ σ' ∧ EOff ws ρ ρ' → Q σ' H) (Z O ρ σ H)
def wGs (K : PySem.W.Frag) (cl : Nat → Addr) (Z : ZK) (ws : List Nat) (g : List D → Env → Res Env) : TGs := fun vs σ H Q => ∃ ρ O ds, Rel K cl O ρ σ H ∧ Rps K cl (vis O ρ σ H) ds vs ∧ Gd (g ds ρ) (fun ρ' => ∀ σ', Po K cl O ρ σ H ρ' σ' H → SameOff ws σ σ' ∧ EOff ws ρ ρ' → Q σ' H) (Z O ρ σ H)
theorem _root_.L2.PG.wk {tg : Expr} {t t' : TG} (h : PG X tg t) (k : ∀ v σ H Q, t' v σ H Q → t v σ H Q) : PG X tg t' := ⟨fun pins s σ H v u Q I r q => h.run pins s σ H v u Q I r (k _ _ _ _ q)⟩
theorem _root_.L2.PGs.wk {tg : List Expr} {t t' : TGs} (h : PGs X tg t) (k : ∀ v σ H Q, t' v σ H Q → t v σ H Q) : PGs X tg t' := ⟨fun pins s σ H v u Q I r q => h.run pins s σ H v u Q I r (k _ _ _ _ q)⟩
def gSet (i : Nat) : MG := fun d ρ => if kd ρ i ≠ 2 then .ok (ρ.set i (.val d)) else .bad
theorem dg_name {i : Nat} {x : Str} (hN : X.N.Nodup) (hi : X.N[i]? = some x) (hx : Loc X.env.scope x) (hf : X.fn x = true ∨ X.env.scope.names.lookup x = some .local := by first | exact .inl rfl | exact .inr rfl | assumption) : PG X (.Name x pos) (wG X.K cl Z [i] (gSet i)) :=
  (pg_name hN hi hx hf).wk fun v σ H Q ⟨ρ, O, d, r, h, g⟩ => by
    unfold gSet at g
    split at g
    · rename_i hk
      exact g _ (Po.set_val r i h hk) ⟨⟨by simp, fun j hj => by
        simp only [List.mem_singleton] at hj
        exact List.getElem?_set_ne (Ne.symm hj)⟩, fun j hj => by
        simp only [List.mem_singleton] at hj
        exact List.getElem?_set_ne (Ne.symm hj)⟩
    · exact g.elim
def gsNil : List D → Env → Res Env
  | [], ρ => .ok ρ
  | _, _ => .bad
def gsCons (g : MG) (gs : List D → Env → Res Env) : List D → Env → Res Env
  | d :: ds, ρ => (g d ρ).bind fun ρ' => gs ds ρ'
  | _, _ => .bad
variable {es : List Expr} {ws vs : List Nat} {g : MG} {gs : List D → Env → Res Env}
theorem dgs_nil : PGs X [] (wGs X.K cl Z [] gsNil) := pgs_nil.wk fun v σ H Q ⟨ρ, O, ds, r, h, g⟩ => by
  cases ds with
  | nil =>
    simp only [Rps] at h
    exact ⟨h, g σ (Po.refl r) ⟨SameOff.refl, EOff.refl⟩⟩
  | cons d ds => exact g.elim
theorem dgs_cons (z : ZOk X.K cl Z) (h1 : PG X e (wG X.K cl Z ws g)) (h2 : PGs X es (wGs X.K cl Z vs gs)) (hs : (assignEach (e :: es) X.env).map (·.2) = assign e X.env :: (assignEach es X.env).map (·.2) := by rfl) :
    PGs X (e :: es) (wGs X.K cl Z (ws ++ vs) (gsCons g gs)) := (pgs_cons h1 h2 hs).wk fun v σ H Q ⟨ρ, O, ds, r, h, q⟩ => by
  cases ds with
  | nil => exact q.elim
  | cons d ds =>
    simp only [Rps] at h
    obtain ⟨v1, r1, rfl, h3, h4⟩ := h
    refine ⟨v1, r1, rfl, ρ, O, d, r, h3, (Gd.bind.mp q).mono (fun ρ1 q1 σ1 p1 s1 => ?_) fun _ _ _ w => w⟩
    exact ⟨ρ1, O, ds, p1.rel, Rps.ex (p1.ex r) _ _ h4, q1.mono (fun ρ2 q2 σ2 p2 s2 => q2 σ2 (p1.trans p2) ⟨s1.1.trans s2.1, s1.2.trans s2.2⟩) fun _ _ _ w => z.mono r p1 w⟩
theorem pg_alt {tg : Expr} {t u : TG} (h1 : PG X tg t) (h2 : PG X tg u) : PG X tg (fun v σ H Q => t v σ H Q ∨ u v σ H Q) := ⟨fun pins s σ H v w Q I r h => h.elim (h1.run pins s σ H v w Q I r) (h2.run pins s σ H v w Q I r)⟩
def gTupD (n : Nat) (gs : List D → Env → Res Env) : MG := fun d ρ => match d with
  | .tup ds => if ds.length = n then gs ds ρ else .bad
  | .lst ds => if ds.length = n then gs ds ρ else .bad
  | _ => .bad
theorem dg_tup {k : Nat} {n : Nat} (hc : X.calm = true) (h : PGs X es (wGs X.K cl Z ws gs)) (hn : (assignEach es X.env).length = n := by rfl) (hst : (assignEach es X.env).findIdx? (·.1) = none := by rfl) :
    PG X (.Tuple es k pos) (wG X.K cl Z ws (gTupD n gs)) := (pg_alt (pg_tup hc h hn hst) (pg_unl hc h hn hst)).wk fun v σ H Q ⟨ρ, O, d, r, h, g⟩ => by
  unfold gTupD at g
  split at g
  · split at g
    · rename_i hl
      simp only [Rp] at h
      obtain ⟨a, xs, rfl, h1, h2⟩ := h
      exact .inl ⟨a, xs, rfl, ex_t (hide_ex H _) h1, by rw [← h2.length]; exact hl, ρ, O, _, r, h2, g⟩
    · exact g.elim
  · split at g
    · rename_i hl
      simp only [Rp] at h
      obtain ⟨a, xs, rfl, h1, h2⟩ := h
      exact .inr ⟨a, xs, rfl, SqL.of (hide_at h1), by rw [← h2.length]; exact hl, ρ, O, _, r, h2, g⟩
    · exact g.elim
  · exact g.elim
def mAsg (m : ME) (g : MG) : MS := fun ρ => (m ρ).bind fun x => (g x.1 x.2).bind fun ρ' => .ok (.nxt ρ')
theorem ds_asg {tg : Expr} (z : ZOk X.K cl Z) (he : PE X e (wE X.K cl Z ma)) (hg : PG X tg (wG X.K cl Z ws g)) (hs : swapsWithSole [tg] e pos.line X.env = pure false := by rfl) (hw : swappedStores [tg] e X.env = pure none := by rfl)
    (h1 : (assignEach [tg] X.env).map (·.2) = [assign tg X.env] := by rfl) : PS X (.Assign [tg] e pos) (wS X.K cl Z (mAsg ma g)) :=
  (ps_asg he hg hs hw h1).wk fun D σ H ⟨ρ, O, r, q⟩ => wE_then z r q fun d ρ1 v H1 p1 q1 =>
    ⟨ρ1, O, d, p1.po.rel, p1.val, (Gd.bind.mp q1).mono (fun ρ2 q2 σ2 p2 _ => q2 σ2 H1 (p1.po.trans p2)) fun _ _ _ w => w⟩
end
end DF
namespace DF
open PySem PySem.Spec L2 Evl

/-! ### what is walked -/
structure Wk (K : PySem.W.Frag) (cl : Nat → Addr) (B : Hp) (J : It) (ds : List D) : Prop where
  step : ∀ (P : Addr → Prop) (H : Hp), (∀ a, P a → H a ≠ none) → Ex B (hide H P) → ∀ i d, ds[i]? = some d → J.go i H ∧ ∀ x H', J.yld i H x H' → Ex H H' ∧ Rp K cl (hide H' P) d x
  stop : ∀ (P : Addr → Prop) (H : Hp), Ex B (hide H P) → J.stop ds.length H
abbrev MI := Env → Res (List D × Env)
def wI (K : PySem.W.Frag) (cl : Nat → Addr) (Z : ZK) (m : MI) : TI := fun σ H R => ∃ ρ O, Rel K cl O ρ σ H ∧ Gd (m ρ) (fun x => ∀ J H', PoT K cl O ρ σ H x.2 H' → Wk K cl (vis O x.2 σ H') J x.1 → R J H') (Z O ρ σ H)
def itemsOf : D → Option (List D)
  | .lst ds => some ds
  | .tup ds => some ds
  | .str z => some (z.cps.toList.map fun c => .str ⟨#[c]⟩)
  | _ => none
def mItems (m : ME) : MI := fun ρ => (m ρ).bind fun x => (lft (itemsOf x.1)).bind fun ds => .ok (ds, x.2)
section
variable {X : Cx} {cl : Nat → Addr} {Z : ZK} {K : PySem.W.Frag} {O : Addr → Prop} {ρ ρ' ρ1 ρ2 : Env} {σ σ' σ1 σ2 : L2.St} {H H' H1 H2 : Hp} {B : Hp}
theorem _root_.L2.PI.wk {tg e : Expr} {t t' : TI} (h : PI X tg e t) (k : ∀ σ H R, t' σ H R → t σ H R) : PI X tg e t' := ⟨fun pins s σ H R I q => h.run pins s σ H R I (k _ _ _ q)⟩
theorem pi_alt {tg e : Expr} {t u : TI} (h1 : PI X tg e t) (h2 : PI X tg e u) : PI X tg e (fun σ H R => t σ H R ∨ u σ H R) := ⟨fun pins s σ H R I h => h.elim (h1.run pins s σ H R I) (h2.run pins s σ H R I)⟩
theorem wk_list {a : Addr} {ds : List D} {vs : List V} (h : B a = some (.lst vs)) (r : Rps K cl B ds vs) : Wk K cl B (Itl K a) ds where
  step := fun P H hP ex i d hd => by
    obtain ⟨v, e1, e2⟩ := r.get hd
    have hq : SqL K H a vs := SqL.of (hide_at (ex a _ h))
    refine ⟨⟨vs, v, hq, e1⟩, fun x H' ⟨hH, hx⟩ => ?_⟩
    subst hH
    have := hx vs hq
    rw [e1] at this; cases this
    exact ⟨Ex.refl _, Rp.ex ex _ _ e2⟩
  stop := fun P H ex => ⟨vs, SqL.of (hide_at (ex a _ h)), by rw [r.length]; exact Nat.le_refl _⟩
theorem wk_tup {a : Addr} {ds : List D} {vs : List V} (h : SqT K B a vs) (r : Rps K cl B ds vs) : Wk K cl B (Itt K a) ds where
  step := fun P H hP ex i d hd => by
    obtain ⟨v, e1, e2⟩ := r.get hd
    have hq : SqT K H a vs := hide_seqT (ex_t ex h)
    refine ⟨⟨vs, v, hq, e1⟩, fun x H' ⟨hH, hx⟩ => ?_⟩
    subst hH
    have := hx vs hq
    rw [e1] at this; cases this
    exact ⟨Ex.refl _, Rp.ex ex _ _ e2⟩
  stop := fun P H ex => ⟨vs, hide_seqT (ex_t ex h), by rw [r.length]; exact Nat.le_refl _⟩
theorem wk_str {z : Str} : Wk K cl B (Its z) (z.cps.toList.map fun c => D.str ⟨#[c]⟩) where
  step := fun P H hP ex i d hd => by
    rw [List.getElem?_map] at hd
    obtain ⟨c, e1, rfl⟩ := Option.map_eq_some_iff.mp hd
    have hi : i < z.cps.size := by
      have := (List.getElem?_eq_some_iff.mp e1).1
      simpa using this
    refine ⟨hi, fun x H' ⟨hH, c', e2, hx⟩ => ?_⟩
    subst hH
    subst hx
    rw [Array.getElem?_toList] at e1
    rw [e1] at e2; cases e2
    exact ⟨Ex.refl _, by simp only [Rp]⟩
  stop := fun P H ex => by
    show z.cps.size ≤ _
    simp
variable {tg a b c e : Expr} {ma mb me : ME} {pos : Pos} {st : Stmt} {sts : List Stmt}
theorem di_val (z : ZOk X.K cl Z) (ha : PE X e (wE X.K cl Z ma)) : PI X tg e (wI X.K cl Z (mItems ma)) := (pi_alt (pi_list ha) (pi_alt (pi_tup ha) (pi_str ha))).wk fun σ H R ⟨ρ, O, r, g⟩ => by
  cases hm : ma ρ with
  | bad => rw [show mItems ma ρ = .bad by unfold mItems; rw [hm]; rfl] at g; exact g.elim
  | err c d ρ' =>
    rw [show mItems ma ρ = .err c d ρ' by unfold mItems; rw [hm]; rfl] at g
    exact .inl ⟨ρ, O, r, by rw [hm]; exact g⟩
  | ok x =>
    obtain ⟨d, ρ1⟩ := x
    unfold mItems at g
    rw [hm] at g
    simp only [bind_ok] at g
    obtain ⟨ds, e1, g2⟩ := Gd.lft g
    cases d <;> simp only [itemsOf, Option.some.injEq] at e1 <;> try (cases e1; done)
    · subst e1
      refine .inr (.inr ⟨ρ, O, r, ?_⟩)
      rw [hm]
      intro v H' p
      have hv := p.val
      simp only [Rp] at hv
      exact ⟨_, hv, g2 _ H' p.poT wk_str⟩
    · subst e1
      refine .inr (.inl ⟨ρ, O, r, ?_⟩)
      rw [hm]
      intro v H' p
      have hv := p.val
      simp only [Rp] at hv
      obtain ⟨a, vs, rfl, h1, h2⟩ := hv
      exact ⟨a, rfl, ⟨vs, hide_seqT h1⟩, g2 _ H' p.poT (wk_tup h1 h2)⟩
    · subst e1
      refine .inl ⟨ρ, O, r, ?_⟩
      rw [hm]
      intro v H' p
      have hv := p.val
      simp only [Rp] at hv
      obtain ⟨a, vs, rfl, h1, h2⟩ := hv
      exact ⟨a, rfl, ⟨vs, SqL.of (hide_at h1)⟩, g2 _ H' p.poT (wk_list h1 h2)⟩
def rngD (lo : Int) (n : Nat) : List D := (List.range n).map fun i => .int (lo + (i : Nat))
theorem wk_rng {lo : Int} {n : Nat} : Wk K cl B (Itr lo n) (rngD lo n) where
  step := fun P H hP ex i d hd => by
    unfold rngD at hd
    rw [List.getElem?_map] at hd
    obtain ⟨c, e1, rfl⟩ := Option.map_eq_some_iff.mp hd
    have hi : i < n := by
      have := (List.getElem?_eq_some_iff.mp e1).1
      simpa using this
    have hc : c = i := by
      rw [List.getElem?_range hi] at e1
      exact (Option.some.inj e1).symm
    subst hc
    refine ⟨hi, fun x H' ⟨hH, hx⟩ => ?_⟩
    subst hH
    subst hx
    exact ⟨Ex.refl _, by simp only [Rp]⟩
  stop := fun P H ex => by
    show n ≤ (rngD lo n).length
    unfold rngD
    simp
noncomputable def rng1 : List D → Option (List D)
  | [.int j] => @ite _ (-4000000000000000000 ≤ j ∧ j < 4000000000000000000) (Classical.propDecidable _) (some (rngD 0 j.toNat)) none
  | _ => none
noncomputable def rng2 : List D → Option (List D)
  | [.int i, .int j] => @ite _ (-4000000000000000000 ≤ i ∧ i < 4000000000000000000 ∧ -4000000000000000000 ≤ j ∧ j < 4000000000000000000) (Classical.propDecidable _) (some (rngD i (j - i).toNat)) none
  | _ => none
def mIt (f : List D → Option (List D)) (m : MA) : MI := fun ρ => (m ρ).bind fun x => (lft (f x.1)).bind fun ds => .ok (ds, x.2)
variable {mr : MA} {p q : Pos}
theorem di_range1 (z : ZOk X.K cl Z) (hg : Gl X "range") (hm : X.mg "range" = none) (ha : PA X [a] (wA X.K cl Z mr)) (hs : starEach [a] X.env = [(false, eval a X.env)] := by rfl) : PI X tg (.Call (.Name "range" p) [a] [] pos) (wI X.K cl Z (mIt rng1 mr)) :=
  (pi_range1 hg hm ha hs).wk fun σ H R ⟨ρ, O, r, g⟩ => wA_then z r g fun ds ρ1 vs H1 p g1 => by
    obtain ⟨ds', e, g2⟩ := Gd.lft g1
    simp only at e
    unfold rng1 at e
    split at e
    · split at e
      · rename_i hz
        cases e
        obtain ⟨v, rfl, h1⟩ := rps1 p.val
        simp only [Rp] at h1
        subst h1
        exact ⟨_, rfl, by omega, by omega, g2 _ H1 p.poT wk_rng⟩
      · cases e
    · cases e
theorem di_range2 (z : ZOk X.K cl Z) (hg : Gl X "range") (hm : X.mg "range" = none) (ha : PA X [a, b] (wA X.K cl Z mr)) (hs : starEach [a, b] X.env = [(false, eval a X.env), (false, eval b X.env)] := by rfl)
    (hs2 : starEach [b] X.env = [(false, eval b X.env)] := by rfl) : PI X tg (.Call (.Name "range" p) [a, b] [] pos) (wI X.K cl Z (mIt rng2 mr)) :=
  (pi_range2 hg hm ha hs hs2).wk fun σ H R ⟨ρ, O, r, g⟩ => wA_then z r g fun ds ρ1 vs H1 p g1 => by
    obtain ⟨ds', e, g2⟩ := Gd.lft g1
    simp only at e
    unfold rng2 at e
    split at e
    · split at e
      · rename_i hz
        cases e
        obtain ⟨v, w, rfl, h1, h2⟩ := rps2 p.val
        simp only [Rp] at h1 h2
        subst h1; subst h2
        exact ⟨_, _, rfl, by omega, g2 _ H1 p.poT wk_rng⟩
      · cases e
    · cases e
def enumD : Nat → List D → List D
  | _, [] => []
  | n, d :: ds => .tup [.int (n : Int), d] :: enumD (n + 1) ds
theorem enumD_get : ∀ {ds : List D} {n i : Nat} {d : D}, (enumD n ds)[i]? = some d → ∃ d', ds[i]? = some d' ∧ d = .tup [.int ((n + i : Nat) : Int), d']
  | [], n, i, d, h => by simp [enumD] at h
  | d0 :: ds, n, 0, d, h => by simp [enumD] at h; exact ⟨d0, rfl, by rw [← h]; simp⟩
  | d0 :: ds, n, i + 1, d, h => by
    simp [enumD] at h
    obtain ⟨d', h1, h2⟩ := enumD_get h
    exact ⟨d', by simpa using h1, by rw [h2]; simp; omega⟩
theorem enumD_len : ∀ (ds : List D) (n : Nat), (enumD n ds).length = ds.length
  | [], _ => rfl
  | d :: ds, n => by simp [enumD, enumD_len ds (n + 1)]
theorem wk_enum {a : Addr} {ds : List D} {vs : List V} (h : B a = some (.lst vs)) (r : Rps K cl B ds vs) : Wk K cl B (Ite K a) (enumD 0 ds) where
  step := fun P H hP ex i d hd => by
    obtain ⟨d', hd', rfl⟩ := enumD_get hd
    obtain ⟨v, e1, e2⟩ := r.get hd'
    have hq : SqL K H a vs := SqL.of (hide_at (ex a _ h))
    refine ⟨⟨vs, v, hq, e1⟩, fun x H' ⟨T, y, hx, hT, hH, hy⟩ => ?_⟩
    subst hH
    subst hx
    have := hy vs hq
    rw [e1] at this; cases this
    refine ⟨Ex.new hT, ?_⟩
    simp only [Rp]
    refine ⟨T, _, rfl, .inl (.inl (new_seen hP hT)), Rps.cons (by simp only [Rp]; simp) (Rps.cons (Rp.ex (Ex.trans ex (new_ex hT)) _ _ e2) Rps.nil)⟩
  stop := fun P H ex => ⟨vs, SqL.of (hide_at (ex a _ h)), by rw [enumD_len, r.length]; exact Nat.le_refl _⟩
def fEnum : List D → Option (List D)
  | [.lst ds] => some (enumD 0 ds)
  | _ => none
theorem di_enum {tpos : Pos} {elts : List Expr} {kk : Nat} (z : ZOk X.K cl Z) (hg : Gl X "enumerate") (hm : X.mg "enumerate" = none) (ha : PA X [e] (wA X.K cl Z mr)) (hs : starEach [e] X.env = [(false, eval e X.env)] := by rfl) :
    PI X (.Tuple elts kk tpos) (.Call (.Name "enumerate" p) [e] [] pos) (wI X.K cl Z (mIt fEnum mr)) :=
  (pi_enum hg hm ha hs).wk fun σ H R ⟨ρ, O, r, g⟩ => wA_then z r g fun ds ρ1 vs H1 p g1 => by
    obtain ⟨ds', e, g2⟩ := Gd.lft g1
    simp only at e
    unfold fEnum at e
    split at e
    · cases e
      obtain ⟨v, rfl, h1⟩ := rps1 p.val
      simp only [Rp] at h1
      obtain ⟨a, ws, rfl, h2, h3⟩ := h1
      exact ⟨a, ws, rfl, SqL.of (hide_at h2), g2 _ H1 p.poT (wk_enum h2 h3)⟩
    · cases e
def zipD : List D → List D → List D
  | d :: ds, e :: es => .tup [d, e] :: zipD ds es
  | _, _ => []
theorem zipD_get : ∀ {ds es : List D} {i : Nat} {d : D}, (zipD ds es)[i]? = some d → ∃ d1 d2, ds[i]? = some d1 ∧ es[i]? = some d2 ∧ d = .tup [d1, d2]
  | [], es, i, d, h => by simp [zipD] at h
  | d0 :: ds, [], i, d, h => by simp [zipD] at h
  | d0 :: ds, e0 :: es, 0, d, h => by simp [zipD] at h; exact ⟨d0, e0, rfl, rfl, h.symm⟩
  | d0 :: ds, e0 :: es, i + 1, d, h => by
    simp [zipD] at h
    obtain ⟨d1, d2, h1, h2, h3⟩ := zipD_get h
    exact ⟨d1, d2, by simpa using h1, by simpa using h2, h3⟩
theorem zipD_len : ∀ (ds es : List D), (zipD ds es).length = min ds.length es.length
  | [], es => by simp [zipD]
  | d :: ds, [] => by simp [zipD]
  | d :: ds, e :: es => by simp only [zipD, List.length_cons, zipD_len ds es]; omega
theorem wk_zip {a b : Addr} {ds es : List D} {vs ws : List V} (h : B a = some (.lst vs)) (r : Rps K cl B ds vs) (h' : B b = some (.lst ws)) (r' : Rps K cl B es ws) : Wk K cl B (Itz K a b) (zipD ds es) where
  step := fun P H hP ex i d hd => by
    obtain ⟨d1, d2, hd1, hd2, rfl⟩ := zipD_get hd
    obtain ⟨v, e1, e2⟩ := r.get hd1
    obtain ⟨w, e3, e4⟩ := r'.get hd2
    have hq : SqL K H a vs := SqL.of (hide_at (ex a _ h))
    have hq' : SqL K H b ws := SqL.of (hide_at (ex b _ h'))
    refine ⟨⟨vs, ws, v, w, hq, hq', e1, e3⟩, fun x H' ⟨T, y, y', hx, hT, hH, hy, hy'⟩ => ?_⟩
    subst hH
    subst hx
    have t1 := hy vs hq
    rw [e1] at t1; cases t1
    have t2 := hy' ws hq'
    rw [e3] at t2; cases t2
    refine ⟨Ex.new hT, ?_⟩
    simp only [Rp]
    exact ⟨T, _, rfl, .inl (.inl (new_seen hP hT)), Rps.cons (Rp.ex (Ex.trans ex (new_ex hT)) _ _ e2) (Rps.cons (Rp.ex (Ex.trans ex (new_ex hT)) _ _ e4) Rps.nil)⟩
  stop := fun P H ex => ⟨vs, ws, SqL.of (hide_at (ex a _ h)), SqL.of (hide_at (ex b _ h')), by have h1 := zipD_len ds es; have h2 := r.length; have h3 := r'.length; omega⟩
theorem wk_zipT {a b : Addr} {ds es : List D} {vs ws : List V} (h : SqT K B a vs) (r : Rps K cl B ds vs) (h' : SqT K B b ws) (r' : Rps K cl B es ws) : Wk K cl B (RZ.ItzT K a b) (zipD ds es) where
  step := fun P H hP ex i d hd => by
    obtain ⟨d1, d2, hd1, hd2, rfl⟩ := zipD_get hd
    obtain ⟨v, e1, e2⟩ := r.get hd1
    obtain ⟨w, e3, e4⟩ := r'.get hd2
    have hq : SqT K H a vs := hide_seqT (ex_t ex h)
    have hq' : SqT K H b ws := hide_seqT (ex_t ex h')
    refine ⟨⟨vs, ws, v, w, hq, hq', e1, e3⟩, fun x H' ⟨T, y, y', hx, hT, hH, hy, hy'⟩ => ?_⟩
    subst hH
    subst hx
    have t1 := hy vs hq
    rw [e1] at t1; cases t1
    have t2 := hy' ws hq'
    rw [e3] at t2; cases t2
    refine ⟨Ex.new hT, ?_⟩
    simp only [Rp]
    exact ⟨T, _, rfl, .inl (.inl (new_seen hP hT)), Rps.cons (Rp.ex (Ex.trans ex (new_ex hT)) _ _ e2) (Rps.cons (Rp.ex (Ex.trans ex (new_ex hT)) _ _ e4) Rps.nil)⟩
  stop := fun P H ex => ⟨vs, ws, hide_seqT (ex_t ex h), hide_seqT (ex_t ex h'), by have h1 := zipD_len ds es; have h2 := r.length; have h3 := r'.length; omega⟩
def fZip : List D → Option (List D)
  | [.lst ds, .lst es] => some (zipD ds es)
  | [.tup ds, .tup es] => some (zipD ds es)
  | _ => none
theorem di_zip {tpos : Pos} {elts : List Expr} {kk : Nat} (z : ZOk X.K cl Z) (hg : Gl X "zip") (hm : X.mg "zip" = none) (ha : PA X [a, b] (wA X.K cl Z mr)) (hs : starEach [a, b] X.env = (false, eval a X.env) :: starEach [b] X.env := by rfl)
    (hpl : (backTo pos (starEach [b] X.env)).any (·.1) = false := by rfl) : PI X (.Tuple elts kk tpos) (.Call (.Name "zip" p) [a, b] [] pos) (wI X.K cl Z (mIt fZip mr)) :=
  (RZ.pi_zipA hg hm ha hs hpl).wk fun σ H R ⟨ρ, O, r, g⟩ => wA_then z r g fun ds ρ1 vs H1 p g1 => by
    obtain ⟨ds', e, g2⟩ := Gd.lft g1
    simp only at e
    unfold fZip at e
    split at e
    · cases e
      obtain ⟨v, w, rfl, h1, h2⟩ := rps2 p.val
      simp only [Rp] at h1 h2
      obtain ⟨a, ws, rfl, h3, h4⟩ := h1
      obtain ⟨b, us, rfl, h5, h6⟩ := h2
      exact ⟨a, b, ws, us, rfl, .inl ⟨SqL.of (hide_at h3), SqL.of (hide_at h5), g2 _ H1 p.poT (wk_zip h3 h4 h5 h6)⟩⟩
    · cases e
      obtain ⟨v, w, rfl, h1, h2⟩ := rps2 p.val
      simp only [Rp] at h1 h2
      obtain ⟨a, ws, rfl, h3, h4⟩ := h1
      obtain ⟨b, us, rfl, h5, h6⟩ := h2
      exact ⟨a, b, ws, us, rfl, .inr ⟨hide_seqT h3, hide_seqT h5, g2 _ H1 p.poT (wk_zipT h3 h4 h5 h6)⟩⟩
    · cases e

/-! ### for -/
def forGo (g : MG) (mb : MS) : List D → Env → Res Out
  | [], ρ => .ok (.nxt ρ)
  | d :: ds, ρ => (g d ρ).bind fun ρ1 => (mb ρ1).bind fun o => match o with
    | .nxt ρ2 => forGo g mb ds ρ2
    | .cnt ρ2 => forGo g mb ds ρ2
    | .brk ρ2 => .ok (.nxt ρ2)
    | .ret d' ρ2 => .ok (.ret d' ρ2)
def mFor (mi : MI) (g : MG) (mb : MS) : MS := fun ρ => (mi ρ).bind fun x => forGo g mb x.1 x.2
variable {mi : MI} {g : MG} {m1 m2 : MS} {mt : MT} {ws : List Nat}
theorem ds_for {iter : Expr} (z : ZOk X.K cl Z) (hp : PassesOwn (model X.prog X.w) X.A X.env X.xe) (hc : X.calm = true) (hi : PI X tg iter (wI X.K cl Z mi)) (hg : PG X tg (wG X.K cl Z ws g)) (hb : PSs X sts (wS X.K cl Z m1))
    (hs : ∀ x, foldedSetIterable iter X.env x = pure x := by intro _; rfl) : PS X (.For tg iter sts [] pos) (wS X.K cl Z (mFor mi g m1)) :=
  (ps_for hp hc hi hg hb hs).wk fun D σ H ⟨ρ, O, r, q⟩ => by
    refine ⟨ρ, O, r, (Gd.bind.mp q).mono (fun x q J H0 p0 wk => ?_) fun _ _ _ w => w⟩
    obtain ⟨ds, ρ0⟩ := x
    simp only at q p0 wk
    have q0 : Gd (forGo g m1 ds ρ0) (SOk X.K cl O ρ σ H D) (Z O ρ0 σ H0) := q.mono (fun _ w => w) fun _ _ _ w => z.mono r p0.po w
    refine ⟨fun i m σ' H' => ∃ ρi, Po X.K cl O ρ0 σ H0 ρi σ' H' ∧ i ≤ ds.length ∧ m = ds.length - i ∧ Gd (forGo g m1 (ds.drop i) ρi) (SOk X.K cl O ρ σ H D) (Z O ρi σ' H'),
      ⟨_, ρ0, Po.refl p0.po.rel, Nat.zero_le _, rfl, q0⟩, fun i m σ' H' ⟨ρi, p1, hl, hm, q1⟩ => ?_⟩
    have ex : Ex (vis O ρ0 σ H0) (vis O ρi σ' H') := p1.ex p0.po.rel
    by_cases hi : i < ds.length
    · refine .inr ?_
      have hd : ds[i]? = some ds[i] := List.getElem?_eq_getElem hi
      obtain ⟨go, yl⟩ := wk.step (hid O ρi σ') H' (fun a ha => p1.rel.hid_some ha) ex i _ hd
      have e0 : ds.drop i = ds[i] :: ds.drop (i + 1) := List.drop_eq_getElem_cons hi
      rw [e0] at q1
      unfold forGo at q1
      refine ⟨go, fun σ2 H2 => ∃ ρ2, Po X.K cl O ρ0 σ H0 ρ2 σ2 H2 ∧ Gd (forGo g m1 (ds.drop (i + 1)) ρ2) (SOk X.K cl O ρ σ H D) (Z O ρ2 σ2 H2), fun σ2 H2 ⟨ρ2, h1, h2⟩ => ⟨ds.length - (i + 1), by omega, ρ2, h1, hi, rfl, h2⟩, fun x H3 hy => ?_⟩
      obtain ⟨e3, v3⟩ := yl x H3 hy
      have p3 := Po.of_ex p1.rel e3
      refine ⟨ρi, O, ds[i], p3.rel, v3, (Gd.bind.mp q1).mono (fun ρ4 q4 σ4 p4 _ => ?_) fun _ _ _ w => z.mono p1.rel p3 w⟩
      have p14 := p3.trans p4
      refine ⟨ρ4, O, p4.rel, (Gd.bind.mp q4).mono (fun o q5 => ?_) fun _ _ _ w => z.mono p1.rel p14 w⟩
      have p04 := p1.trans p14
      cases o with
      | nxt ρ5 => exact fun σ5 H5 p5 => ⟨ρ5, p04.trans p5, q5.mono (fun _ w => w) fun _ _ _ w => z.mono p1.rel (p14.trans p5) w⟩
      | cnt ρ5 => exact fun σ5 H5 p5 => ⟨ρ5, p04.trans p5, q5.mono (fun _ w => w) fun _ _ _ w => z.mono p1.rel (p14.trans p5) w⟩
      | brk ρ5 => exact fun σ5 H5 p5 => q5 σ5 H5 ((p0.po.trans p04).trans p5)
      | ret d ρ5 => exact fun v σ5 H5 p5 w => q5 v σ5 H5 ((p0.po.trans p04).trans p5) w
    · have e1 : i = ds.length := by omega
      subst e1
      refine .inl ⟨wk.stop (hid O ρi σ') H' ex, ?_⟩
      rw [List.drop_length] at q1
      exact q1 σ' H' (p0.po.trans p1)

/-! ### while -/
def whileGo (mt : MT) (mb : MS) : Nat → Env → Res Out
  | 0, _ => .bad
  | n + 1, ρ => (mt ρ).bind fun b => if b.1 = true then (mb b.2).bind fun o => match o with
      | .nxt ρ2 => whileGo mt mb n ρ2
      | .cnt ρ2 => whileGo mt mb n ρ2
      | .brk ρ2 => .ok (.nxt ρ2)
      | .ret d' ρ2 => .ok (.ret d' ρ2)
    else .ok (.nxt b.2)
def mWhile (fuel : Env → Nat) (mt : MT) (mb : MS) : MS := fun ρ => whileGo mt mb (fuel ρ) ρ
theorem ds_while (z : ZOk X.K cl Z) (fuel : Env → Nat) (hp : PassesOwn (model X.prog X.w) X.A X.env X.xe) (hc : PT X c (wT X.K cl Z mt)) (hb : PSs X sts (wS X.K cl Z m1)) : PS X (.While c sts [] pos) (wS X.K cl Z (mWhile fuel mt m1)) :=
  (ps_while hp hc hb).wk fun D σ H ⟨ρ, O, r, q⟩ => by
    refine ⟨fun m σ' H' => ∃ ρi, Po X.K cl O ρ σ H ρi σ' H' ∧ Gd (whileGo mt m1 m ρi) (SOk X.K cl O ρ σ H D) (Z O ρi σ' H'), ⟨_, ρ, Po.refl r, q⟩, fun m σ' H' ⟨ρi, p1, q1⟩ => ?_⟩
    cases m with
    | zero => exact q1.elim
    | succ n =>
      unfold whileGo at q1
      refine wT_then z p1.rel q1 fun b ρ2 H2 p2 q2 => ?_
      have p12 := p1.trans p2.po
      cases b with
      | false =>
        exact q2 σ' H2 p12
      | true =>
        refine ⟨fun σ3 H3 => ∃ ρ3, Po X.K cl O ρ σ H ρ3 σ3 H3 ∧ Gd (whileGo mt m1 n ρ3) (SOk X.K cl O ρ σ H D) (Z O ρ3 σ3 H3), fun σ3 H3 ⟨ρ3, h1, h2⟩ => ⟨n, Nat.lt_succ_self _, ρ3, h1, h2⟩, ρ2, O, p2.po.rel, ?_⟩
        have q2' : Gd ((m1 ρ2).bind fun o => match o with
          | .nxt ρ2 => whileGo mt m1 n ρ2
          | .cnt ρ2 => whileGo mt m1 n ρ2
          | .brk ρ2 => .ok (.nxt ρ2)
          | .ret d' ρ2 => .ok (.ret d' ρ2)) (SOk X.K cl O ρ σ H D) (Z O ρ2 σ' H2) := q2
        refine (Gd.bind.mp q2').mono (fun o q5 => ?_) fun _ _ _ w => w
        cases o with
        | nxt ρ5 => exact fun σ5 H5 p5 => ⟨ρ5, p12.trans p5, q5.mono (fun _ w => w) fun _ _ _ w => z.mono p2.po.rel p5 w⟩
        | cnt ρ5 => exact fun σ5 H5 p5 => ⟨ρ5, p12.trans p5, q5.mono (fun _ w => w) fun _ _ _ w => z.mono p2.po.rel p5 w⟩
        | brk ρ5 => exact fun σ5 H5 p5 => q5 σ5 H5 (p12.trans p5)
        | ret d ρ5 => exact fun v σ5 H5 p5 w => q5 v σ5 H5 (p12.trans p5) w

/-! ### comprehensions -/
def ne {α : Type} : Res α → Res α
  | .ok a => .ok a
  | _ => .bad
@[simp] theorem ne_ok {α : Type} (a : α) : ne (Res.ok a) = .ok a := rfl
theorem ne_gd {α β : Type} {r : Res α} {f : α → Res β} {S : β → Prop} {Zc : Str → D → Env → Prop} (h : Gd ((ne r).bind f) S Zc) : ∃ a, r = .ok a ∧ Gd (f a) S Zc := by
  cases r with
  | ok a => exact ⟨a, rfl, h⟩
  | err c d ρ => exact h.elim
  | bad => exact h.elim
def wipeE : List Nat → Env → Env
  | [], ρ => ρ
  | v :: vs, ρ => (wipeE vs ρ).set v .un
def lcGo (vs : List Nat) (g : MG) (mt : MT) (me : ME) : List D → List D → Env → Res (List D × Env)
  | [], acc, ρ => .ok (acc, ρ)
  | d :: ds, acc, ρ => (ne (g d ρ)).bind fun ρ1 => (ne (mt ρ1)).bind fun b => if b.1 = true then (ne (me b.2)).bind fun y => if acc.length < sizeLine then lcGo vs g mt me ds (acc ++ [y.1]) (wipeE vs y.2) else .bad
    else lcGo vs g mt me ds acc (wipeE vs b.2)
def mLc (vs : List Nat) (mi : MI) (g : MG) (mt : MT) (me : ME) : ML := fun ρ => (mi ρ).bind fun x => if (vs.all fun v => kd x.2 v == 0) = true then (lcGo vs g mt me x.1 [] (wipeE vs x.2)).bind fun y => .ok (.lst y.1, y.2) else .bad
def mYes : MT := fun ρ => .ok (true, ρ)
theorem dts_nil : PTs X [] (wT X.K cl Z mYes) := ⟨fun pins s σ H Q I ⟨ρ, O, r, g⟩ => pts_nil.run pins s σ H Q I (g H (PoT.refl r))⟩
theorem dts_one {c : Expr} (h : PT X c (wT X.K cl Z mt)) : PTs X [c] (wT X.K cl Z mt) := pts_one h
theorem wipeE_len (vs : List Nat) (ρ : Env) : (wipeE vs ρ).length = ρ.length := by
  induction vs with
  | nil => rfl
  | cons v vs ih => simp [wipeE, ih]
theorem Rel.wiped (r : Rel K cl O ρ σ H) : ∀ vs, Rel K cl O (wipeE vs ρ) (wipe σ vs) H
  | [] => r
  | v :: vs => (Rel.wiped r vs).store_un v none
theorem wipeE_in {vs : List Nat} {ρ : Env} {v : Nat} {s : Slot} : v ∈ vs → (wipeE vs ρ)[v]? = some s → s = .un := by
  induction vs with
  | nil => intro h; cases h
  | cons w vs ih =>
    intro h e
    unfold wipeE at e
    rcases set_cases e with ⟨_, _, e2⟩ | ⟨ne, e2⟩
    · exact e2
    · rcases List.mem_cons.mp h with h | h
      · exact absurd h ne
      · exact ih h e2
theorem wipeE_out {vs : List Nat} {ρ : Env} {v : Nat} : v ∉ vs → (wipeE vs ρ)[v]? = ρ[v]? := by
  induction vs with
  | nil => intro _; rfl
  | cons w vs ih =>
    intro h
    simp only [List.mem_cons, not_or] at h
    unfold wipeE
    rw [List.getElem?_set_ne (Ne.symm h.1), ih h.2]
theorem kd_wipe_in {vs : List Nat} {ρ : Env} {v : Nat} (h : v ∈ vs) : kd (wipeE vs ρ) v = 0 := by
  unfold kd
  cases e : (wipeE vs ρ)[v]? with
  | none => rfl
  | some s => rw [wipeE_in h e]
theorem kd_wipe_out {vs : List Nat} {ρ : Env} {v : Nat} (h : v ∉ vs) : kd (wipeE vs ρ) v = kd ρ v := by
  unfold kd
  rw [wipeE_out h]
theorem wipe_out' {vs : List Nat} {σ : L2.St} {v : Nat} : v ∉ vs → (wipe σ vs)[v]? = σ[v]? := by
  induction vs with
  | nil => intro _; rfl
  | cons w vs ih =>
    intro h
    simp only [List.mem_cons, not_or] at h
    unfold wipe
    rw [List.getElem?_set_ne (Ne.symm h.1), ih h.2]
theorem wipe_in' {vs : List Nat} {σ : L2.St} {v : Nat} (hl : v < σ.length) : v ∈ vs → (wipe σ vs)[v]? = some none := by
  induction vs with
  | nil => intro h; cases h
  | cons w vs ih =>
    intro h
    unfold wipe
    by_cases e : v = w
    · rw [e, List.getElem?_set_self (by rw [wipe_length]; rw [← e]; exact hl)]
    · rw [List.getElem?_set_ne (Ne.symm e)]
      rcases List.mem_cons.mp h with h | h
      · exact absurd h e
      · exact ih h
theorem wipe_same {vs ws : List Nat} (h : SameOff ws σ σ') (hs : ∀ w ∈ ws, w ∈ vs) : wipe σ' vs = wipe σ vs := by
  apply List.ext_getElem?
  intro j
  by_cases hj : j ∈ vs
  · by_cases hl : j < σ.length
    · rw [wipe_in' hl hj, wipe_in' (by rw [h.1]; exact hl) hj]
    · rw [List.getElem?_eq_none (by rw [wipe_length, h.1]; omega), List.getElem?_eq_none (by rw [wipe_length]; omega)]
  · rw [wipe_out' hj, wipe_out' hj, h.2 j (fun z => hj (hs j z))]
theorem wipe_wipe {vs : List Nat} : wipe (wipe σ vs) vs = wipe σ vs := by
  apply List.ext_getElem?
  intro j
  by_cases hj : j ∈ vs
  · by_cases hl : j < σ.length
    · rw [wipe_in' (by rw [wipe_length]; exact hl) hj, wipe_in' hl hj]
    · rw [List.getElem?_eq_none (by rw [wipe_length, wipe_length]; omega), List.getElem?_eq_none (by rw [wipe_length]; omega)]
  · rw [wipe_out' hj]
/-- where the block's own names are forgotten their slots do not matter -/
theorem Rel.unwipe {vs : List Nat} (r : Rel K cl O ρ (wipe σ vs) H) (h : ∀ v ∈ vs, ∀ s, ρ[v]? = some s → s = .un) : Rel K cl O ρ σ H ∧ vis O ρ (wipe σ vs) H = vis O ρ σ H := by
  have off : ∀ i, kd ρ i ≠ 0 → i ∉ vs := fun i hk hi => hk (by
    unfold kd
    cases e : ρ[i]? with
    | none => rfl
    | some s => rw [h i hi s e])
  have hh : hid O ρ (wipe σ vs) = hid O ρ σ := by
    funext a
    unfold hid
    apply propext
    constructor
    · rintro (q | ⟨i, q1, q2⟩)
      · exact .inl q
      · exact .inr ⟨i, q1, by rw [← wipe_out' (off i (by rw [q1]; decide))]; exact q2⟩
    · rintro (q | ⟨i, q1, q2⟩)
      · exact .inl q
      · exact .inr ⟨i, q1, by rw [wipe_out' (off i (by rw [q1]; decide))]; exact q2⟩
  have hv : vis O ρ (wipe σ vs) H = vis O ρ σ H := by unfold vis; rw [hh]
  refine ⟨⟨by rw [r.len, wipe_length], fun i s hs => ?_, fun i j a h1 h2 h3 h4 => r.dist i j a h1 h2 (by rw [wipe_out' (off i h1)]; exact h3) (by rw [wipe_out' (off j h2)]; exact h4), r.dom⟩, hv⟩
  have q := r.at_ i s hs
  by_cases hi : i ∈ vs
  · rw [h i hi s hs]; trivial
  · cases s with
    | un => trivial
    | val d =>
      obtain ⟨v, q1, q2⟩ := q
      exact ⟨v, by rw [← wipe_out' hi]; exact q1, by rw [← hv]; exact q2⟩
    | own c =>
      obtain ⟨v, q1, q2, q3⟩ := q
      exact ⟨v, by rw [← wipe_out' hi]; exact q1, q2, by rw [← hv]; exact q3⟩
    | pin c =>
      obtain ⟨v, q1, q2, q3⟩ := q
      exact ⟨v, by rw [← wipe_out' hi]; exact q1, q2, by rw [← hv]; exact q3⟩
/-- a hidden thing that is no slot's changes -/
theorem Rel.upd_hidden {p : Addr} {o : HO} (r : Rel K cl O ρ σ H) (hp : O p) (np : ∀ j, kd ρ j ≠ 0 → σ[j]? ≠ some (some (.ref p))) : Rel K cl O ρ σ (upd H p o) ∧ Ex (vis O ρ σ H) (vis O ρ σ (upd H p o)) := by
  have ex : Ex (vis O ρ σ H) (vis O ρ σ (upd H p o)) := hide_mono fun a u h e => ⟨h, by rw [upd_ne (fun z => h (by rw [z]; exact .inl hp))]; exact e⟩
  refine ⟨⟨r.len, fun i s hs => ?_, r.dist, fun a h => ?_⟩, ex⟩
  · have q := r.at_ i s hs
    cases s with
    | un => trivial
    | val d =>
      obtain ⟨v, q1, q2⟩ := q
      exact ⟨v, q1, Rp.ex ex _ _ q2⟩
    | own c =>
      obtain ⟨v, q1, q2, q3⟩ := q
      refine ⟨v, q1, q2, q3.ex ex fun o' e => ?_⟩
      rw [upd_ne (fun z => np i (by rw [kd_own hs]; decide) (by rw [← z]; exact q1))]
      exact e
    | pin c =>
      obtain ⟨v, q1, q2, q3⟩ := q
      refine ⟨v, q1, q2, q3.ex ex fun o' e => ?_⟩
      rw [upd_ne (fun z => np i (by rw [kd_pin hs]; decide) (by rw [← z]; exact q1))]
      exact e
  · by_cases e : a = p
    · subst e; rw [upd_same]; exact Option.some_ne_none _
    · rw [upd_ne e]; exact r.dom a h
end
end DF
namespace DF
open PySem PySem.Spec L2 Evl

section
variable {X : Cx} {cl : Nat → Addr} {Z : ZK} {K : PySem.W.Frag} {O : Addr → Prop} {ρ ρ' ρ1 ρ2 : Env} {σ σ' σ1 σ2 : L2.St} {H H' H1 H2 : Hp} {B : Hp}
variable {tg a b c e : Expr} {ma mb me : ME} {pos : Pos} {st : Stmt} {sts : List Stmt} {mi : MI} {g : MG} {m1 m2 : MS} {mt : MT} {ws : List Nat}

/-! ### a comprehension -/
theorem fresh_before (r : Rel K cl O ρ σ H) (p : PoT K cl O ρ σ H ρ1 H1) {t : Addr} (ht : H1 t = none) : H t = none := by
  by_cases m : Mu ρ σ t
  · obtain ⟨i, h1, h2⟩ := m
    exact absurd ht (p.po.rel.mu_some (a := t) ⟨i, by rw [← p.sh i]; exact h1, h2⟩)
  · exact fr_some p.po.fr m ht
theorem lc_w {vs : List Nat} (z : ZOk K cl Z) (hws : ∀ w ∈ ws, w ∈ vs) {σ : L2.St} {H : Hp} {Q : VK} (h : wL K cl Z (mLc vs mi g mt me) σ H Q) : tLc (wI K cl Z mi) (wG K cl Z0 ws g) (wT K cl Z0 mt) (wE K cl Z0 me) vs σ H Q := by
  obtain ⟨ρ, O, r, q⟩ := h
  refine ⟨ρ, O, r, (Gd.bind.mp q).mono (fun x q J H1 p1 wk D hD => ?_) fun _ _ _ w => w⟩
  obtain ⟨ds, ρ1⟩ := x
  simp only at q p1 wk
  split at q
  case isFalse => exact q.elim
  rename_i hk
  have hk0 : ∀ v ∈ vs, kd ρ1 v = 0 := fun v hv => by
    have := List.all_eq_true.mp hk v hv
    simpa using this
  have q := Gd.bind.mp q
  have hDH : H D = none := fresh_before r p1 hD
  have np : ∀ j, kd ρ1 j ≠ 0 → σ[j]? ≠ some (some (.ref D)) := fun j h1 h2 => p1.po.rel.mu_some ⟨j, h1, h2⟩ hD
  have kw : ∀ i, kd (wipeE vs ρ1) i = kd ρ1 i := fun i => by
    by_cases hi : i ∈ vs
    · rw [kd_wipe_in hi, hk0 i hi]
    · exact kd_wipe_out hi
  have rel0 : Rel K cl (ins O D) (wipeE vs ρ1) (wipe σ vs) (upd H1 D (.lst [])) := (p1.po.rel.laid hD).wiped vs
  have ex0 : Ex (vis O ρ1 σ H1) (vis (ins O D) (wipeE vs ρ1) (wipe σ vs) (upd H1 D (.lst []))) := hide_mono fun a u h e => by
    have ne : a ≠ D := fun z => by rw [z, hD] at e; cases e
    refine ⟨fun z => ?_, by rw [upd_ne ne]; exact e⟩
    rcases hid_ins.mp z with z | z
    · refine h ?_
      rcases z with z | ⟨i, z1, z2⟩
      · exact .inl z
      · have hi : i ∉ vs := fun hi => by rw [kd_wipe_in hi] at z1; cases z1
        exact .inr ⟨i, by rw [← kw i]; exact z1, by rw [← wipe_out' hi]; exact z2⟩
    · exact ne z
  refine ⟨fun i m H' => i ≤ ds.length ∧ m = ds.length - i ∧ ∃ ρi acc accV, Rel K cl (ins O D) ρi (wipe σ vs) H' ∧ H' D = some (.lst accV) ∧ Rps K cl (vis (ins O D) ρi (wipe σ vs) H') acc accV ∧
      Fr (fun a => Mu ρ1 σ a ∨ a = D) (upd H1 D (.lst [])) H' ∧ (∀ j, kd ρi j = kd ρ1 j) ∧ (∀ v ∈ vs, ∀ s, ρi[v]? = some s → s = .un) ∧ Ex (vis O ρ1 σ H1) (vis (ins O D) ρi (wipe σ vs) H') ∧
      Gd (lcGo vs g mt me (ds.drop i) acc ρi) (fun y => Gd (Res.ok (Ct.lst y.1, y.2)) (fun x => ∀ p H', PoL K cl O ρ σ H x.1 x.2 p H' → Q (.ref p) H') (Z O ρ σ H)) (Z O ρ σ H),
    ⟨_, Nat.zero_le _, rfl, wipeE vs ρ1, [], [], rel0, upd_same, Rps.nil, Fr.refl _, kw, fun v hv s hs => wipeE_in hv hs, ex0, q⟩, fun i m H' ⟨hl, hm, ρi, acc, accV, rel, hA, rA, fr, sh, un, ex, q1⟩ => ?_⟩
  have npi : ∀ j, kd ρi j ≠ 0 → (wipe σ vs)[j]? ≠ some (some (.ref D)) := fun j h1 h2 => by
    rw [sh j] at h1
    have hj : j ∉ vs := fun hj => h1 (hk0 j hj)
    rw [wipe_out' hj] at h2
    exact np j h1 h2
  by_cases hi : i < ds.length
  · refine .inr ?_
    have hd : ds[i]? = some ds[i] := List.getElem?_eq_getElem hi
    obtain ⟨go, yl⟩ := wk.step (hid (ins O D) ρi (wipe σ vs)) H' (fun a ha => rel.hid_some ha) ex i _ hd
    have e0 : ds.drop i = ds[i] :: ds.drop (i + 1) := List.drop_eq_getElem_cons hi
    rw [e0] at q1
    unfold lcGo at q1
    obtain ⟨ρ3, e3, q3⟩ := ne_gd q1
    obtain ⟨⟨bb, ρ4⟩, e4, q4⟩ := ne_gd q3
    -- what each way through the turn needs
    let NX : Hp → Prop := fun H'' => ∃ ρj acc' accV', Rel K cl (ins O D) ρj (wipe σ vs) H'' ∧ H'' D = some (.lst accV') ∧ Rps K cl (vis (ins O D) ρj (wipe σ vs) H'') acc' accV' ∧
      Fr (fun a => Mu ρ1 σ a ∨ a = D) (upd H1 D (.lst [])) H'' ∧ (∀ j, kd ρj j = kd ρ1 j) ∧ (∀ v ∈ vs, ∀ s, ρj[v]? = some s → s = .un) ∧ Ex (vis O ρ1 σ H1) (vis (ins O D) ρj (wipe σ vs) H'') ∧
      Gd (lcGo vs g mt me (ds.drop (i + 1)) acc' ρj) (fun y => Gd (Res.ok (Ct.lst y.1, y.2)) (fun x => ∀ p H', PoL K cl O ρ σ H x.1 x.2 p H' → Q (.ref p) H') (Z O ρ σ H)) (Z O ρ σ H)
    refine ⟨go, NX, fun H'' ⟨ρj, acc', accV', h1, h2, h3, h4, h5, h6, h7, h8⟩ => ⟨ds.length - (i + 1), by omega, hi, rfl, ρj, acc', accV', h1, h2, h3, h4, h5, h6, h7, h8⟩, fun x H3 hy => ?_⟩
    obtain ⟨ex3, v3⟩ := yl x H3 hy
    have p3 := Po.of_ex rel ex3
    refine ⟨ρi, ins O D, ds[i], p3.rel, v3, ?_⟩
    rw [e3]
    refine fun σ4 p4 off => ⟨(wipe_same off.1 hws).trans wipe_wipe, ρ3, ins O D, p4.rel, ?_⟩
    rw [e4]
    refine fun H5 p5 => ?_
    have p05 := (p3.trans p4).trans p5.po
    have mui : ∀ a, Mu ρi (wipe σ vs) a → Mu ρ1 σ a := fun a ⟨j, h1, h2⟩ => by
      rw [sh j] at h1
      have hj : j ∉ vs := fun hj => h1 (hk0 j hj)
      rw [wipe_out' hj] at h2
      exact ⟨j, h1, h2⟩
    have nD : ¬ Mu ρi (wipe σ vs) D := fun ⟨j, h1, h2⟩ => npi j h1 h2
    -- the same of any step behind the test
    have fin : ∀ (ρy : Env) (Hy : Hp), Po K cl (ins O D) ρi (wipe σ vs) H' ρy σ4 Hy → (∀ j, kd ρ3 j = kd ρy j) → Rel K cl (ins O D) (wipeE vs ρy) (wipe σ vs) Hy ∧ (∀ j, kd (wipeE vs ρy) j = kd ρ1 j) ∧ Hy D = some (.lst accV) ∧
        Fr (fun a => Mu ρ1 σ a ∨ a = D) (upd H1 D (.lst [])) Hy ∧ Ex (vis (ins O D) ρy σ4 Hy) (vis (ins O D) (wipeE vs ρy) (wipe σ vs) Hy) := fun ρy Hy py shy => by
      have w1 : wipe σ4 vs = wipe σ vs := (wipe_same off.1 hws).trans wipe_wipe
      have rely := py.rel.wiped vs
      rw [w1] at rely
      have shj : ∀ j, kd (wipeE vs ρy) j = kd ρ1 j := fun j => by
        by_cases hj : j ∈ vs
        · rw [kd_wipe_in hj, hk0 j hj]
        · rw [kd_wipe_out hj, ← shy j, ← sh j]
          unfold kd
          rw [off.2 j (fun z => hj (hws j z))]
      refine ⟨rely, shj, py.fr D _ hA nD, fr.trans py.fr fun a ha => .inl (.inl (mui a ha)), ?_⟩
      rw [← w1]
      exact hide_le (hid_sub fun j a q1 q2 => by
        have hj : j ∉ vs := fun hj => by rw [kd_wipe_in hj] at q1; cases q1
        rw [kd_wipe_out hj] at q1
        rw [wipe_out' hj] at q2
        exact ⟨q1, q2⟩)
    cases bb with
    | false =>
      obtain ⟨f1, f2, f3, f4, f5⟩ := fin ρ4 H5 p05 (fun j => p5.sh j)
      have exx := Ex.trans (p05.ex rel) f5
      exact ⟨wipeE vs ρ4, acc, accV, f1, f3, Rps.ex exx _ _ rA, f4, f2, fun v hv s hs => wipeE_in hv hs, Ex.trans ex exx, q4⟩
    | true =>
      obtain ⟨⟨d6, ρ6⟩, e6, q6⟩ := ne_gd (show Gd ((ne (me ρ4)).bind fun y => if acc.length < sizeLine then lcGo vs g mt me (ds.drop (i + 1)) (acc ++ [y.1]) (wipeE vs y.2) else .bad) _ _ from q4)
      refine ⟨ρ4, ins O D, p5.po.rel, ?_⟩
      rw [e6]
      refine fun y H6 p6 => ?_
      have p06 := p05.trans p6.po
      obtain ⟨f1, f2, f3, f4, f5⟩ := fin ρ6 H6 p06 (fun j => (p5.sh j).trans (p6.sh j))
      have exx := Ex.trans (p06.ex rel) f5
      split at q6
      case isFalse => exact q6.elim
      rename_i hz
      refine ⟨accV, f3, by rw [← rA.length]; exact hz, ?_⟩
      have np6 : ∀ j, kd (wipeE vs ρ6) j ≠ 0 → (wipe σ vs)[j]? ≠ some (some (.ref D)) := fun j h1 h2 => by
        rw [f2 j] at h1
        have hj : j ∉ vs := fun hj => h1 (hk0 j hj)
        rw [wipe_out' hj] at h2
        exact np j h1 h2
      obtain ⟨g1, g2⟩ := f1.upd_hidden (o := .lst (accV ++ [y])) (.inr rfl) np6
      have vy : Rp K cl (vis (ins O D) (wipeE vs ρ6) (wipe σ vs) H6) d6 y := Rp.ex f5 _ _ p6.val
      refine ⟨wipeE vs ρ6, acc ++ [d6], accV ++ [y], g1, upd_same, Rps.append (Rps.ex (Ex.trans exx g2) _ _ rA) (Rps.cons (Rp.ex g2 _ _ vy) Rps.nil), fun a o h1 h2 => ?_, f2, fun v hv s hs => wipeE_in hv hs, Ex.trans ex (Ex.trans exx g2), q6⟩
      rw [upd_ne (fun z => h2 (.inr z))]
      exact f4 a o h1 h2
  · have e1 : i = ds.length := by omega
    subst e1
    refine .inl ⟨wk.stop (hid (ins O D) ρi (wipe σ vs)) H' ex, ?_⟩
    rw [List.drop_length] at q1
    obtain ⟨u1, u2⟩ := rel.unwipe un
    refine q1 D H' ⟨hDH, ?_, fun j => (p1.sh j).trans (sh j).symm, u1, accV, hA, by rw [← u2]; exact rA⟩
    intro a o h1 h2
    have ne : a ≠ D := fun z => by rw [z, hDH] at h1; cases h1
    refine fr a o (by rw [upd_ne ne]; exact p1.po.fr a o h1 h2) fun z => ?_
    rcases z with ⟨j, z1, z2⟩ | z
    · exact h2 ⟨j, by rw [p1.sh j]; exact z1, z2⟩
    · exact ne z
theorem dl_lc {iter : Expr} {ifs : List Expr} {scope : Scope} {own : List (Str × Nat)} (z : ZOk X.K cl Z) (hc : X.calm = true) (hN : X.N.Nodup) (hi : PI X tg iter (wI X.K cl Z mi)) (ok : BlkOk X.N X.env.scope scope own)
    (hg : ∀ (s : Shared) (H : Hp) (C : Addr) (cls : List (Str × Addr)) (fp : List Addr), PG (X.blk s H scope (compEnvC scope cls C X.env) fp) tg (wG X.K cl Z0 ws g)) (ht : ∀ (s : Shared) (H : Hp) (C : Addr) (cls : List (Str × Addr)) (fp : List Addr), PTs (X.blk s H scope (compEnvC scope cls C X.env) fp) ifs (wT X.K cl Z0 mt))
    (he : ∀ (s : Shared) (H : Hp) (C : Addr) (cls : List (Str × Addr)) (fp : List Addr), PE (X.blk s H scope (compEnvC scope cls C X.env) fp) e (wE X.K cl Z0 me)) (hws : ∀ w ∈ ws, w ∈ own.map (·.2) := by decide) (hs : ∀ x, foldedSetIterable iter X.env x = pure x := by intro _; rfl) :
    PE X (.ListComp e [⟨tg, iter, ifs, 0⟩] scope pos) (wL X.K cl Z (mLc (own.map (·.2)) mi g mt me)) := (pe_lc hc hN hi ok hg ht he hs).wk fun σ H Q q => lc_w z hws q
theorem ds_setLc {i : Nat} {y : Str} {py spos : Pos} {mr : MR} {iter : Expr} {ifs : List Expr} {scope : Scope} {own : List (Str × Nat)} (z : ZOk X.K cl Z) (hc : X.calm = true) (hN : X.N.Nodup) (hy : X.N[i]? = some y) (hyl : X.env.scope.names.lookup y = some .local)
    (hsw : swapsWith (.ListComp e [⟨tg, iter, ifs, 0⟩] scope pos) (some (.Name y py)) spos.line X.env = pure true) (hi : PI X tg iter (wI X.K cl Z mi)) (ok : BlkOk X.N X.env.scope scope own)
    (hg : ∀ (s : Shared) (H : Hp) (C : Addr) (cls : List (Str × Addr)) (fp : List Addr), PG (X.blk s H scope (compEnvC scope cls C X.env) fp) tg (wG X.K cl Z0 ws g)) (ht : ∀ (s : Shared) (H : Hp) (C : Addr) (cls : List (Str × Addr)) (fp : List Addr), PTs (X.blk s H scope (compEnvC scope cls C X.env) fp) ifs (wT X.K cl Z0 mt))
    (he : ∀ (s : Shared) (H : Hp) (C : Addr) (cls : List (Str × Addr)) (fp : List Addr), PE (X.blk s H scope (compEnvC scope cls C X.env) fp) e (wE X.K cl Z0 me)) (hws : ∀ w ∈ ws, w ∈ own.map (·.2)) (hm : ∀ σ H Q, wR X.K cl Z mr σ H Q → wL X.K cl Z (mLc (own.map (·.2)) mi g mt me) σ H Q)
    (hs : ∀ x, foldedSetIterable iter X.env x = pure x := by intro _; rfl) :
    PS X (.Assign [.Name y py] (.ListComp e [⟨tg, iter, ifs, 0⟩] scope pos) spos) (wS X.K cl Z (mSet i mr)) := ds_setT (ps_setLc hc hN hy hyl hsw hi ok hg ht he hs) fun σ H Q q => lc_w z hws (hm σ H Q q)

/-! ### what changes a list or dict of the frame's own -/
def setCt (ρ : Env) (i : Nat) (c : Ct) : Env := match ρ[i]? with
  | some (.own _) => ρ.set i (.own c)
  | some (.pin _) => ρ.set i (.pin c)
  | _ => ρ
theorem ct_lt {i : Nat} {c : Ct} (h : ctOf ρ i = some c) : i < ρ.length := by
  unfold ctOf at h
  split at h
  · rename_i e; exact (List.getElem?_eq_some_iff.mp e).1
  · rename_i e; exact (List.getElem?_eq_some_iff.mp e).1
  · cases h
theorem kd_setCt {i j : Nat} {c : Ct} : kd (setCt ρ i c) j = kd ρ j := by
  unfold setCt
  split
  · rename_i c' e
    by_cases h : j = i
    · subst h
      rw [kd_own e, kd_own (List.getElem?_set_self (List.getElem?_eq_some_iff.mp e).1)]
    · exact kd_set_ne h
  · rename_i c' e
    by_cases h : j = i
    · subst h
      rw [kd_pin e, kd_pin (List.getElem?_set_self (List.getElem?_eq_some_iff.mp e).1)]
    · exact kd_set_ne h
  · rfl
/-- the thing at the slot's address is changed -/
theorem Po.mut {i : Nat} {c c' : Ct} {p : Addr} {o : HO} (r : Rel K cl O ρ σ H) (hc : ctOf ρ i = some c) (hp : σ[i]? = some (some (.ref p))) (h : Rc K cl (vis O ρ σ H) (upd H p o) c' p) : Po K cl O ρ σ H (setCt ρ i c') σ (upd H p o) := by
  have hk : kd ρ i ≠ 0 := by
    obtain ⟨_, _, _, q⟩ := r.ct hc
    exact q
  have hh : hid O (setCt ρ i c') σ = hid O ρ σ := hid_sh fun j => kd_setCt.symm
  have hp' : hid O ρ σ p := r.mu_hid ⟨i, hk, hp⟩
  have hv : Ex (vis O ρ σ H) (vis O (setCt ρ i c') σ (upd H p o)) := by
    unfold vis
    rw [hh]
    exact hide_mono fun a u q e => ⟨q, by rw [upd_ne (fun z => q (by rw [z]; exact hp'))]; exact e⟩
  have hlen : (setCt ρ i c').length = ρ.length := by
    unfold setCt
    split <;> simp
  have other : ∀ j s, j ≠ i → (setCt ρ i c')[j]? = some s → ρ[j]? = some s := fun j s hj hs => by
    unfold setCt at hs
    split at hs
    · rw [List.getElem?_set_ne (Ne.symm hj)] at hs; exact hs
    · rw [List.getElem?_set_ne (Ne.symm hj)] at hs; exact hs
    · exact hs
  refine ⟨fun a u h1 h2 => ?_, fun a ⟨j, h1, h2⟩ => .inl ⟨j, by rw [← kd_setCt (c := c')]; exact h1, h2⟩, ⟨by rw [hlen, r.len], fun j s hs => ?_, fun j k a h1 h2 => r.dist j k a (by rw [← kd_setCt (c := c')]; exact h1) (by rw [← kd_setCt (c := c')]; exact h2), fun a h1 => ?_⟩, fun j hj => ⟨by rw [kd_setCt]; exact hj, rfl⟩⟩
  · rw [upd_ne (fun z => h2 (by rw [z]; exact ⟨i, hk, hp⟩))]; exact h1
  · by_cases hj : j = i
    · subst hj
      have q : ∃ c0, ρ[j]? = some (.own c0) ∧ s = .own c' ∨ ρ[j]? = some (.pin c0) ∧ s = .pin c' := by
        unfold ctOf at hc
        unfold setCt at hs
        split at hs
        · rename_i c0 e0
          rw [List.getElem?_set_self (List.getElem?_eq_some_iff.mp e0).1] at hs
          exact ⟨c0, .inl ⟨e0, (Option.some.inj hs).symm⟩⟩
        · rename_i c0 e0
          rw [List.getElem?_set_self (List.getElem?_eq_some_iff.mp e0).1] at hs
          exact ⟨c0, .inr ⟨e0, (Option.some.inj hs).symm⟩⟩
        · rename_i n1 n2
          split at hc
          · rename_i c0 e0; exact absurd e0 (n1 c0)
          · rename_i c0 e0; exact absurd e0 (n2 c0)
          · cases hc
      obtain ⟨c0, ⟨e0, rfl⟩ | ⟨e0, rfl⟩⟩ := q
      · obtain ⟨p', h1, h2, _⟩ := r.at_ j _ e0
        rw [hp] at h1; cases h1
        exact ⟨p, hp, h2, h.ex hv fun _ e => e⟩
      · obtain ⟨p', h1, h2, _⟩ := r.at_ j _ e0
        rw [hp] at h1; cases h1
        exact ⟨p, hp, h2, h.ex hv fun _ e => e⟩
    · have hs' := other j s hj hs
      have q := r.at_ j s hs'
      have nep : ∀ a, kd ρ j ≠ 0 → σ[j]? = some (some (.ref a)) → a ≠ p := fun a h1 h2 z => by
        subst z
        exact hj (r.dist j i a h1 hk h2 hp)
      cases s with
      | un => trivial
      | val d =>
        obtain ⟨v, q1, q2⟩ := q
        exact ⟨v, q1, Rp.ex hv _ _ q2⟩
      | own c =>
        obtain ⟨v, q1, q2, q3⟩ := q
        exact ⟨v, q1, q2, q3.ex hv fun _ e => by rw [upd_ne (nep v (by rw [kd_own hs']; decide) q1)]; exact e⟩
      | pin c =>
        obtain ⟨v, q1, q2, q3⟩ := q
        exact ⟨v, q1, q2, q3.ex hv fun _ e => by rw [upd_ne (nep v (by rw [kd_pin hs']; decide) q1)]; exact e⟩
  · by_cases e : a = p
    · subst e; rw [upd_same]; exact Option.some_ne_none _
    · rw [upd_ne e]; exact r.dom a h1
theorem mut_ex {i : Nat} {c : Ct} {p : Addr} {o : HO} (r : Rel K cl O ρ σ H) (hc : ctOf ρ i = some c) (hp : σ[i]? = some (some (.ref p))) : Ex (vis O ρ σ H) (vis O ρ σ (upd H p o)) := by
  have hk : kd ρ i ≠ 0 := by
    obtain ⟨_, _, _, q⟩ := r.ct hc
    exact q
  have hp' : hid O ρ σ p := r.mu_hid ⟨i, hk, hp⟩
  exact hide_mono fun a u q e => ⟨q, by rw [upd_ne (fun z => q (by rw [z]; exact hp'))]; exact e⟩
def ctL (ρ : Env) (i : Nat) : Option (List D) := match ctOf ρ i with
  | some (.lst ds) => some ds
  | _ => none
theorem ctL_of {i : Nat} {ds : List D} (h : ctL ρ i = some ds) : ctOf ρ i = some (.lst ds) := by
  unfold ctL at h
  split at h
  · rename_i e; cases h; exact e
  · cases h
theorem Rel.lst {i : Nat} {ds : List D} (r : Rel K cl O ρ σ H) (h : ctL ρ i = some ds) : ∃ p vs, σ[i]? = some (some (.ref p)) ∧ H p = some (.lst vs) ∧ Rps K cl (vis O ρ σ H) ds vs := by
  obtain ⟨p, h1, ⟨vs, h2, h3⟩, _⟩ := r.ct (ctL_of h)
  exact ⟨p, vs, h1, h2, h3⟩
def mApp (i : Nat) (me : ME) : MS := fun ρ => (lft (ctL ρ i)).bind fun _ => (me ρ).bind fun y => (lft (ctL y.2 i)).bind fun ds => if ds.length < sizeLine then .ok (.nxt (setCt y.2 i (.lst (ds ++ [y.1])))) else .bad
theorem ds_app {apos cpos : Pos} (z : ZOk X.K cl Z) (i : Nat) (ho : PE X a (tVar i)) (he : PE X e (wE X.K cl Z me)) (hbase : attributeBase a "append" X.env (eval a X.env) = eval a X.env := by rfl)
    (hfew : ((backTo cpos (starEach [e] X.env)).all (fun x => !x.1) && (backToKw cpos (keywordEach [] X.env)).all (fun x => x.1.isSome) && decide ([e].length + ([] : List Keyword).length + (if ([] : List Keyword).isEmpty then 0 else 1) < 30)) = true := by rfl)
    (hline : (apos.endLine == cpos.line) = true := by rfl) (hs : starEach [e] X.env = (false, eval e X.env) :: starEach [] X.env := by rfl) (hplain : (backTo cpos (starEach [] X.env)).any (·.1) = false := by rfl) (hsw : swapsWith (.Call (.Attribute a "append" apos) [e] [] cpos) none pos.line X.env = pure false := by rfl) :
    PS X (.Expr (.Call (.Attribute a "append" apos) [e] [] cpos) pos) (wS X.K cl Z (mApp i me)) :=
  (ps_expr (pe_bm PySem.F.plainAttrs_list PySem.F.slot_list_append PySem.F.type_list_append mt_append ho (pa_cons he pa_nil hs) hbase hfew hline hs hplain) hsw).wk fun D σ H ⟨ρ, O, r, q⟩ => by
    obtain ⟨ds0, hc0, q⟩ := Gd.lft q
    obtain ⟨p, vs0, hp, h1, _⟩ := r.lst hc0
    refine ⟨.ref p, hp, .inl ⟨rfl, vs0, SqL.of h1⟩, wE_then z r q fun d ρ1 v H1 p1 q1 => ?_⟩
    obtain ⟨ds, hc, q2⟩ := Gd.lft q1
    simp only at hc q2
    obtain ⟨p', vs, hp', h2, h3⟩ := p1.po.rel.lst hc
    rw [hp] at hp'; cases hp'
    split at q2
    case isFalse => exact q2.elim
    rename_i hz
    refine ⟨p, vs, v, rfl, rfl, h2, by rw [← h3.length]; exact hz, q2 σ _ (p1.po.trans (Po.mut p1.po.rel (ctL_of hc) hp ⟨_, upd_same, ?_⟩))⟩
    exact Rps.append h3 (Rps.cons p1.val Rps.nil)
def mExt (i : Nat) (me : ME) : MS := fun ρ => (lft (ctL ρ i)).bind fun _ => (me ρ).bind fun y => (lft (match y.1 with | .lst es => some es | _ => none)).bind fun es => (lft (ctL y.2 i)).bind fun ds =>
  if ds.length + es.length ≤ sizeLine then .ok (.nxt (setCt y.2 i (.lst (ds ++ es)))) else .bad
theorem ds_ext {apos cpos : Pos} (z : ZOk X.K cl Z) (i : Nat) (ho : PE X a (tVar i)) (he : PE X e (wE X.K cl Z me)) (hbase : attributeBase a "extend" X.env (eval a X.env) = eval a X.env := by rfl)
    (hfew : ((backTo cpos (starEach [e] X.env)).all (fun x => !x.1) && (backToKw cpos (keywordEach [] X.env)).all (fun x => x.1.isSome) && decide ([e].length + ([] : List Keyword).length + (if ([] : List Keyword).isEmpty then 0 else 1) < 30)) = true := by rfl)
    (hline : (apos.endLine == cpos.line) = true := by rfl) (hs : starEach [e] X.env = (false, eval e X.env) :: starEach [] X.env := by rfl) (hplain : (backTo cpos (starEach [] X.env)).any (·.1) = false := by rfl) (hsw : swapsWith (.Call (.Attribute a "extend" apos) [e] [] cpos) none pos.line X.env = pure false := by rfl) :
    PS X (.Expr (.Call (.Attribute a "extend" apos) [e] [] cpos) pos) (wS X.K cl Z (mExt i me)) :=
  (ps_expr (pe_bm PySem.F.plainAttrs_list PySem.F.slot_list_extend PySem.F.type_list_extend mt_extend ho (pa_cons he pa_nil hs) hbase hfew hline hs hplain) hsw).wk fun D σ H ⟨ρ, O, r, q⟩ => by
    obtain ⟨ds0, hc0, q⟩ := Gd.lft q
    obtain ⟨p, vs0, hp, h1, _⟩ := r.lst hc0
    refine ⟨.ref p, hp, .inl ⟨rfl, vs0, SqL.of h1⟩, wE_then z r q fun d ρ1 v H1 p1 q1 => ?_⟩
    obtain ⟨es, he', q2⟩ := Gd.lft q1
    obtain ⟨ds, hc, q3⟩ := Gd.lft q2
    simp only at hc q3 he'
    cases d <;> simp only at he' <;> try (cases he'; done)
    cases he'
    obtain ⟨p', vs, hp', h2, h3⟩ := p1.po.rel.lst hc
    rw [hp] at hp'; cases hp'
    split at q3
    case isFalse => exact q3.elim
    rename_i hz
    have hv := p1.val
    simp only [Rp] at hv
    obtain ⟨b, ws, rfl, h4, h5⟩ := hv
    refine ⟨p, b, vs, ws, rfl, rfl, h2, hide_at h4, by rw [← h3.length, ← h5.length]; exact hz, q3 σ _ (p1.po.trans (Po.mut p1.po.rel (ctL_of hc) hp ⟨_, upd_same, ?_⟩))⟩
    exact Rps.append h3 h5
/-- x.pop(e), 0 ≤ e -/
noncomputable def mPop (i : Nat) (me : ME) : ME := fun ρ => (lft (ctL ρ i)).bind fun _ => (me ρ).bind fun y => (lft (match y.1 with | .int k => some k | _ => none)).bind fun k => (lft (ctL y.2 i)).bind fun ds =>
  @ite _ (0 ≤ k ∧ k < 4000000000000000000) (Classical.propDecidable _) ((lft (ds[k.toNat]?)).bind fun d => .ok (d, setCt y.2 i (.lst (ds.eraseIdx k.toNat)))) .bad
theorem de_pop {apos cpos : Pos} (z : ZOk X.K cl Z) (i : Nat) (ho : PE X a (tVar i)) (he : PE X e (wE X.K cl Z me)) (hbase : attributeBase a "pop" X.env (eval a X.env) = eval a X.env := by rfl)
    (hfew : ((backTo cpos (starEach [e] X.env)).all (fun x => !x.1) && (backToKw cpos (keywordEach [] X.env)).all (fun x => x.1.isSome) && decide ([e].length + ([] : List Keyword).length + (if ([] : List Keyword).isEmpty then 0 else 1) < 30)) = true := by rfl)
    (hline : (apos.endLine == cpos.line) = true := by rfl) (hs : starEach [e] X.env = (false, eval e X.env) :: starEach [] X.env := by rfl) (hplain : (backTo cpos (starEach [] X.env)).any (·.1) = false := by rfl) :
    PE X (.Call (.Attribute a "pop" apos) [e] [] cpos) (wE X.K cl Z (mPop i me)) :=
  (pe_bm PySem.F.plainAttrs_list PySem.F.slot_list_pop PySem.F.type_list_pop mt_popAt ho (pa_cons he pa_nil hs) hbase hfew hline hs hplain).wk fun σ H Q ⟨ρ, O, r, q⟩ => by
    obtain ⟨ds0, hc0, q⟩ := Gd.lft q
    obtain ⟨p, vs0, hp, h1, _⟩ := r.lst hc0
    refine ⟨.ref p, hp, .inl ⟨rfl, vs0, SqL.of h1⟩, wE_then z r q fun d ρ1 v H1 p1 q1 => ?_⟩
    obtain ⟨k, he', q2⟩ := Gd.lft q1
    obtain ⟨ds, hc, q3⟩ := Gd.lft q2
    simp only at hc q3 he'
    cases d <;> simp only at he' <;> try (cases he'; done)
    cases he'
    obtain ⟨p', vs, hp', h2, h3⟩ := p1.po.rel.lst hc
    rw [hp] at hp'; cases hp'
    split at q3
    case isFalse => exact q3.elim
    rename_i hz
    obtain ⟨d, hd, q4⟩ := Gd.lft q3
    obtain ⟨y, hy, ry⟩ := h3.get hd
    have hv := p1.val
    simp only [Rp] at hv
    subst hv
    have hl : k.toNat < vs.length := (List.getElem?_eq_some_iff.mp hy).1
    have ex := mut_ex (o := .lst (vs.eraseIdx k.toNat)) p1.po.rel (ctL_of hc) hp
    have po := Po.mut (c' := .lst (ds.eraseIdx k.toNat)) (o := .lst (vs.eraseIdx k.toNat)) p1.po.rel (ctL_of hc) hp ⟨_, upd_same, h3.eraseIdx k.toNat⟩
    refine ⟨p, vs, k, k.toNat, y, rfl, rfl, h2, by omega, (by omega), ?_, hy, q4 y _ ⟨p1.po.trans po, fun j => (p1.sh j).trans kd_setCt.symm, ?_⟩⟩
    · exact seqIndex_of hz.1 (by omega)
    · have hh : hid O (setCt ρ1 i (.lst (ds.eraseIdx k.toNat))) σ = hid O ρ1 σ := hid_sh fun j => kd_setCt.symm
      show Rp X.K cl (hide _ (hid O (setCt ρ1 i (.lst (ds.eraseIdx k.toNat))) σ)) d y
      rw [hh]
      exact Rp.ex ex _ _ ry
/-- x[e] = v of a list -/
def mSetIx (i : Nat) (mv mi : ME) : MS := fun ρ => (mv ρ).bind fun x => (lft (ctL x.2 i)).bind fun _ => (mi x.2).bind fun y => (lft (match y.1 with | .int k => some k | _ => none)).bind fun k => (lft (ctL y.2 i)).bind fun ds =>
  (lft (L2.ixN ds.length k)).bind fun j => .ok (.nxt (setCt y.2 i (.lst (ds.set j x.1))))
theorem ds_setIx {mv mi : ME} {v ix : Expr} {spos : Pos} (z : ZOk X.K cl Z) (i : Nat) (ho : PE X a (tVar i)) (hv : PE X v (wE X.K cl Z mv)) (hi : PE X ix (wE X.K cl Z mi))
    (ha : ∀ v, assign (.Subscript a ix spos) X.env v = (do
      let ov ← holding [v] (eval a X.env)
      let iv ← holding [v, ov] (eval ix X.env)
      standAt spos
      holding [v, ov, iv] (setItem ov iv v)
      release [v, ov, iv] []) := by intro _; rfl)
    (hs : swapsWithSole [.Subscript a ix spos] v pos.line X.env = pure false := by rfl) (hw : swappedStores [.Subscript a ix spos] v X.env = pure none := by rfl)
    (h1 : (assignEach [.Subscript a ix spos] X.env).map (·.2) = [assign (.Subscript a ix spos) X.env] := by rfl) : PS X (.Assign [.Subscript a ix spos] v pos) (wS X.K cl Z (mSetIx i mv mi)) :=
  (ps_asg hv (pg_sub ho hi set_list ha) hs hw h1).wk fun D σ H ⟨ρ, O, r, q⟩ => wE_then z r q fun d0 ρ0 w H0 p0 q0 => by
    obtain ⟨ds0, hc0, q⟩ := Gd.lft q0
    obtain ⟨p, vs0, hp, h1, _⟩ := p0.po.rel.lst hc0
    refine ⟨.ref p, hp, wE_then z p0.po.rel q fun d ρ1 v H1 p1 q1 => ?_⟩
    obtain ⟨k, he', q2⟩ := Gd.lft q1
    obtain ⟨ds, hc, q3⟩ := Gd.lft q2
    simp only at hc q3 he'
    cases d <;> simp only at he' <;> try (cases he'; done)
    cases he'
    obtain ⟨p', vs, hp', h2, h3⟩ := p1.po.rel.lst hc
    rw [hp] at hp'; cases hp'
    obtain ⟨j, hj, q4⟩ := Gd.lft q3
    have hv := p1.val
    simp only [Rp] at hv
    subst hv
    have hw' : Rp X.K cl (vis O ρ1 σ H1) d0 w := Rp.ex (p1.po.ex p0.po.rel) _ _ p0.val
    exact ⟨p, vs, k, j, rfl, rfl, h2, by rw [← h3.length]; exact hj, q4 σ _ ((p0.po.trans p1.po).trans (Po.mut p1.po.rel (ctL_of hc) hp ⟨_, upd_same, Rps.set hw' j h3⟩))⟩
end
end DF
namespace DF
open PySem PySem.Spec L2 Evl

section
variable {X : Cx} {cl : Nat → Addr} {Z : ZK} {K : PySem.W.Frag} {O : Addr → Prop} {ρ ρ' ρ1 ρ2 : Env} {σ σ' σ1 σ2 : L2.St} {H H' H1 H2 : Hp} {B : Hp}
variable {tg a b c e : Expr} {ma mb me : ME} {pos : Pos} {st : Stmt} {sts : List Stmt} {mi : MI} {g : MG} {m1 m2 : MS} {mt : MT} {ws : List Nat}

/-! ### a, b = e1, e2 -/
def mPar (i j : Nat) (ma mb : MR) : MS := fun ρ => (ma ρ).bind fun x => (mb x.2).bind fun y => if kd y.2 i ≠ 2 ∧ kd y.2 j ≠ 2 ∧ i < y.2.length ∧ j < y.2.length ∧ i ≠ j then .ok (.nxt ((y.2.set i x.1).set j y.1)) else .bad
theorem wR_then {β : Type} {m : MR} {f : Slot × Env → Res β} {S : β → Prop} {σ : L2.St} {H : Hp} {R : VK} {ρ : Env} {O : Addr → Prop} (r : Rel K cl O ρ σ H) (h : Gd ((m ρ).bind f) S (Z O ρ σ H))
    (k : ∀ s ρ1 v H1, PoR K cl O ρ σ H s ρ1 v H1 → Gd (f (s, ρ1)) S (Z O ρ σ H) → R v H1) : wR K cl Z m σ H R :=
  ⟨ρ, O, r, (Gd.bind.mp h).mono (fun x q v H' p => k x.1 x.2 v H' p q) fun _ _ _ w => w⟩
theorem ds_par {i j : Nat} {x y : Str} {px py pt : Pos} {kt : Nat} {k2 : Nat} {pt2 : Pos} {mra mrb : MR} (z : ZOk X.K cl Z) (hZ : Z = Z0) (hc : X.calm = true) (hN : X.N.Nodup) (hi : X.N[i]? = some x) (hj : X.N[j]? = some y) (hij : i ≠ j)
    (hx : X.env.scope.names.lookup x = some .local) (hy : X.env.scope.names.lookup y = some .local) (ha : PE X a (wR X.K cl Z mra)) (hb : PE X b (wR X.K cl Z mrb))
    (hw : swappedStores [.Tuple [.Name x px, .Name y py] kt pt] (.Tuple [a, b] k2 pt2) X.env = pure (some [x, y])) (hsa : starEach [a, b] X.env = (false, eval a X.env) :: starEach [b] X.env := by rfl) (hsb : starEach [b] X.env = (false, eval b X.env) :: starEach [] X.env := by rfl)
    (hs : swapsWithSole [.Tuple [.Name x px, .Name y py] kt pt] (.Tuple [a, b] k2 pt2) pos.line X.env = pure false := by rfl) :
    PS X (.Assign [.Tuple [.Name x px, .Name y py] kt pt] (.Tuple [a, b] k2 pt2) pos) (wS X.K cl Z (mPar i j mra mrb)) := by
  subst hZ
  exact (ps_par hc hN hi hj hij hx hy (pa_cons ha (pa_cons hb pa_nil hsb) hsa) hw hs).wk fun D σ H ⟨ρ, O, r, q⟩ => wR_then r q fun s1 ρ1 v H1 p1 q1 => by
    have k2of : ∀ (O' : Addr → Prop) (p : Addr) (ρx : Env), Rel X.K cl (ins O' p) ρx σ H1 → True := fun _ _ _ _ => trivial
    cases s1 with
    | un => exact p1.elim
    | pin c => exact p1.elim
    | val d1 =>
      refine wR_then p1.po.rel q1 fun s2 ρ2 w H2 p2 q2 => ?_
      split at q2
      case isFalse => exact q2.elim
      rename_i hz
      obtain ⟨z1, z2, z3, z4, z5⟩ := hz
      refine ⟨v, w, rfl, ?_⟩
      cases s2 with
      | un => exact p2.elim
      | pin c => exact p2.elim
      | val d2 =>
        have a1 := Po.set_val p2.po.rel i (Rp.ex (p2.po.ex p1.po.rel) _ _ p1.val) z1
        have a2 := Po.set_val a1.rel j (Rp.ex (a1.ex p2.po.rel) _ _ p2.val) (by rw [kd_set_ne (Ne.symm z5)]; exact z2)
        exact q2 _ _ (((p1.po.trans p2.po).trans a1).trans a2)
      | own c2 =>
        obtain ⟨p, rfl, p2⟩ := p2
        have b2 := p2.set p1.po.rel j z4 z2
        have ex := b2.ex p1.po.rel
        have a1 := Po.set_val b2.rel i (Rp.ex ex _ _ p1.val) (by rw [kd_set_ne z5]; exact z1)
        have fin := (p1.po.trans b2).trans a1
        rw [List.set_comm _ _ (Ne.symm z5)] at fin
        rw [List.set_comm (l := σ) _ _ (Ne.symm z5)] at fin
        exact q2 _ _ fin
    | own c1 =>
      obtain ⟨p, rfl, p1⟩ := p1
      refine wR_then p1.rel q1 fun s2 ρ2 w H2 p2 q2 => ?_
      split at q2
      case isFalse => exact q2.elim
      rename_i hz
      obtain ⟨z1, z2, z3, z4, z5⟩ := hz
      refine ⟨.ref p, w, rfl, ?_⟩
      have nO : ¬ O p := fun z => r.dom p z p1.new
      -- the first one, as it stands behind the second
      cases s2 with
      | un => exact p2.elim
      | pin c => exact p2.elim
      | val d2 =>
        have npm : ¬ Mu ρ1 σ p := fun ⟨k, h1, h2⟩ => by
          have := r.mu_some (a := p) ⟨k, by rw [p1.sh k]; exact h1, h2⟩
          exact this p1.new
        have hold : PoL X.K cl O ρ σ H c1 ρ2 p H2 := by
          refine ⟨p1.new, fun a o h1 h2 => p2.po.fr a o (p1.fr a o h1 h2) fun ⟨k, h3, h4⟩ => h2 ⟨k, by rw [p1.sh k]; exact h3, h4⟩, fun k => (p1.sh k).trans (p2.sh k), p2.po.rel, p1.val.ex (p2.po.ex p1.rel) fun o h => p2.po.fr p o h npm⟩
        have b1 := hold.set r i z3 z1
        -- the value is seen where p is hidden, the more so behind the store
        have ex : Ex (vis (ins O p) ρ2 σ H2) (vis O (ρ2.set i (.own c1)) (σ.set i (some (.ref p))) H2) := hide_le fun a q => by
          rcases q with q | ⟨k, h1, h2⟩
          · exact .inl (.inl q)
          · by_cases e : k = i
            · rw [e, List.getElem?_set_self (by rw [← p2.po.rel.len]; exact z3)] at h2
              cases h2
              exact .inl (.inr rfl)
            · rw [kd_set_ne e] at h1
              rw [List.getElem?_set_ne (Ne.symm e)] at h2
              exact .inr ⟨k, h1, h2⟩
        have a2 := Po.set_val b1.rel j (Rp.ex ex _ _ p2.val) (by rw [kd_set_ne (Ne.symm z5)]; exact z2)
        exact q2 _ _ (b1.trans a2)
      | own c2 =>
        obtain ⟨t, rfl, p2⟩ := p2
        have npm : ¬ Mu ρ1 σ p := fun ⟨k, h1, h2⟩ => by
          have := r.mu_some (a := p) ⟨k, by rw [p1.sh k]; exact h1, h2⟩
          exact this p1.new
        have pins1 : ∀ k, kd ρ1 k = 2 → ∃ a, σ[k]? = some (some (.ref a)) ∧ O a := r.pins p1.sh
        have tp : t ≠ p := fun z => by
          have := p1.rel.dom p (.inr rfl)
          rw [← z] at this
          exact this p2.new
        have b2 : Po X.K cl (ins O p) ρ1 σ H1 (ρ2.set j (.own c2)) (σ.set j (some (.ref t))) H2 := p2.set p1.rel j z4 z2
        have hv : Rc X.K cl (vis (ins O p) (ρ2.set j (.own c2)) (σ.set j (some (.ref t))) H2) H2 c1 p := p1.val.ex (b2.ex p1.rel) fun o h => p2.fr p o h npm
        have rel2 : Rel X.K cl O ((ρ2.set j (.own c2)).set i (.own c1)) ((σ.set j (some (.ref t))).set i (some (.ref p))) H2 := b2.rel.own_store nO i hv (by simpa using z3) fun k hk => by
          have ne : k ≠ j := fun e => by
            rw [e] at hk
            unfold kd at hk
            rw [List.getElem?_set_self z4] at hk
            cases hk
          rw [kd_set_ne ne, ← p2.sh k] at hk
          obtain ⟨a, h1, h2⟩ := pins1 k hk
          exact ⟨a, by rw [List.getElem?_set_ne (Ne.symm ne)]; exact h1, h2⟩
        have z3' : i < ρ2.length := z3
        have z4' : j < ρ2.length := z4
        have e2 := p2.rel.len
        have hσi : i < σ.length := by omega
        have hσj : j < σ.length := by omega
        rw [List.set_comm _ _ (Ne.symm z5), List.set_comm (l := σ) _ _ (Ne.symm z5)] at rel2
        refine q2 _ _ ⟨fun a o h1 h2 => ?_, fun a ⟨k, h1, h2⟩ => ?_, rel2, fun k hk => ?_⟩
        · exact p2.fr a o (p1.fr a o h1 h2) fun ⟨k, h3, h4⟩ => h2 ⟨k, by rw [p1.sh k]; exact h3, h4⟩
        · by_cases ej : k = j
          · rw [ej, List.getElem?_set_self (by simpa using hσj)] at h2
            cases h2
            refine .inr ?_
            cases e : H t with
            | none => rfl
            | some o =>
              by_cases m : Mu ρ σ t
              · obtain ⟨k', m1, m2⟩ := m
                exact absurd p2.new (p1.rel.mu_some ⟨k', by rw [← p1.sh k']; exact m1, m2⟩)
              · have := p1.fr t o e m
                rw [p2.new] at this; cases this
          · rw [kd_set_ne ej] at h1
            rw [List.getElem?_set_ne (Ne.symm ej)] at h2
            by_cases ei : k = i
            · rw [ei, List.getElem?_set_self hσi] at h2
              cases h2
              exact .inr p1.new
            · rw [kd_set_ne ei] at h1
              rw [List.getElem?_set_ne (Ne.symm ei)] at h2
              exact .inl ⟨k, by rw [p1.sh k, p2.sh k]; exact h1, h2⟩
        · have hk2 : kd ρ2 k = 2 := by rw [← p2.sh k, ← p1.sh k]; exact hk
          have ni : k ≠ i := fun e => z1 (by rw [← e]; exact hk2)
          have nj : k ≠ j := fun e => z2 (by rw [← e]; exact hk2)
          exact ⟨by rw [kd_set_ne nj, kd_set_ne ni]; exact hk2, by rw [List.getElem?_set_ne (Ne.symm nj), List.getElem?_set_ne (Ne.symm ni)]⟩

/-! ### defs: what they promise, their calls -/
def fin : Env → Env → Env
  | [], _ => []
  | .pin c :: ss, ρ' => (match ρ'.head? with | some (.pin c') => .pin c' | _ => .pin c) :: fin ss ρ'.tail
  | s :: ss, ρ' => s :: fin ss ρ'.tail
def finS (s : Slot) (o : Option Slot) : Slot := match s with
  | .pin c => (match o with | some (.pin c') => .pin c' | _ => .pin c)
  | s => s
theorem fin_get : ∀ (ss ρ' : Env) (i : Nat), (fin ss ρ')[i]? = (ss[i]?).map fun s => finS s ρ'[i]?
  | [], ρ', i => by simp [fin]
  | s :: ss, ρ', 0 => by
    cases s with
    | pin c =>
      cases ρ' with
      | nil => simp [fin, finS]
      | cons t ρ' => simp [fin, finS]
    | _ => simp [fin, finS]
  | s :: ss, ρ', i + 1 => by
    have h : ρ'.tail[i]? = ρ'[i + 1]? := by cases ρ' <;> simp
    cases s <;> simp only [fin, List.getElem?_cons_succ, fin_get ss ρ'.tail i, h]
theorem fin_len : ∀ (ss ρ' : Env), (fin ss ρ').length = ss.length
  | [], ρ' => rfl
  | s :: ss, ρ' => by cases s <;> simp [fin, fin_len ss ρ'.tail]
def noOwn : Env → Bool
  | [] => true
  | .own _ :: _ => false
  | _ :: r => noOwn r
theorem noOwn_kd : ∀ {ρ : Env} {i : Nat}, noOwn ρ = true → kd ρ i ≠ 1
  | [], i, h => by unfold kd; simp
  | s :: r, 0, h => by cases s <;> simp [noOwn, kd] at h ⊢
  | s :: r, i + 1, h => by
    have h' : noOwn r = true := by cases s <;> simp [noOwn] at h <;> exact h
    have := noOwn_kd (i := i) h'
    unfold kd at this ⊢
    simpa using this
def mFun (n : Nat) (mb : MS) : ME := fun ss => if noOwn ss = true then (mb (ss ++ List.replicate (n - ss.length) .un)).bind fun o => match o with
    | .ret d ρ' => .ok (d, fin ss ρ')
    | .nxt ρ' => .ok (.non, fin ss ρ')
    | _ => .bad
  else .bad
/-- the promise: the parameters' slots, what comes of the call -/
def spF (K : PySem.W.Frag) (cl : Nat → Addr) (n : Nat) (F : ME) : Sp := fun vs H Q _ => vs.length = n ∧ wE K cl Z0 F (vs.map some) H Q
theorem kd_app {ss : Env} {n i : Nat} : kd (ss ++ List.replicate n .un) i = kd ss i := by
  unfold kd
  by_cases h : i < ss.length
  · rw [List.getElem?_append_left h]
  · rw [List.getElem?_append_right (by omega), List.getElem?_replicate, List.getElem?_eq_none (l := ss) (by omega)]
    split
    · rename_i e; split at e <;> cases e
    · rename_i e; split at e <;> cases e
    · rfl
theorem fin_back {ss ρ' : Env} {vs : List V} {σ0 σ' : L2.St} {n : Nat} {d : D} {v : V} (no : noOwn ss = true) (r : Rel K cl O ss (vs.map some) H) (hσ : ∀ i, i < ss.length → σ0[i]? = (vs.map some)[i]?)
    (r0 : Rel K cl O (ss ++ List.replicate n .un) σ0 H) (p : Po K cl O (ss ++ List.replicate n .un) σ0 H ρ' σ' H') (hd : Rp K cl (vis O ρ' σ' H') d v) : PoE K cl O ss (vs.map some) H d (fin ss ρ') v H' := by
  have lt : ∀ i, kd ss i ≠ 0 → i < ss.length := fun i hk => by
    by_cases h : i < ss.length
    · exact h
    · exact absurd (kd_none (List.getElem?_eq_none (by omega))) hk
  have kf : ∀ i, kd ss i = kd (fin ss ρ') i := fun i => by
    unfold kd
    rw [fin_get]
    cases e : ss[i]? with
    | none => rfl
    | some s =>
      cases s with
      | pin c =>
        simp only [Option.map_some, finS]
        split <;> rename_i h <;> split at h <;> first | rfl | cases h | (rename_i h2; exact absurd rfl (h2 _)) | skip
        all_goals simp_all
      | _ => rfl
  have hidO : ∀ (ρx : Env), (∀ i, kd ρx i = kd ss i) → ∀ a, hid O ρx (vs.map some) a → O a := fun ρx hx a q => by
    rcases q with q | ⟨i, h1, _⟩
    · exact q
    · exact absurd ((hx i).symm.trans h1) (noOwn_kd no)
  have exA : Ex (vis O ss (vs.map some) H) (vis O (ss ++ List.replicate n .un) σ0 H) := hide_le fun a q => by
    rcases q with q | ⟨i, h1, _⟩
    · exact .inl q
    · rw [kd_app] at h1; exact absurd h1 (noOwn_kd no)
  have exB : Ex (vis O ρ' σ' H') (vis O (fin ss ρ') (vs.map some) H') := hide_le fun a q => .inl (hidO _ (fun i => (kf i).symm) a q)
  have ex : Ex (vis O ss (vs.map some) H) (vis O (fin ss ρ') (vs.map some) H') := Ex.trans exA (Ex.trans (p.ex r0) exB)
  refine ⟨⟨fun a o h1 h2 => p.fr a o h1 fun ⟨i, m1, m2⟩ => h2 ⟨i, by rw [kd_app] at m1; exact m1, by rw [kd_app] at m1; rw [← hσ i (lt i m1)]; exact m2⟩, fun a ⟨i, m1, m2⟩ => .inl ⟨i, by rw [kf i]; exact m1, m2⟩,
    ⟨by rw [fin_len]; exact r.len, fun i s hs => ?_, fun i j a h1 h2 => r.dist i j a (by rw [kf i]; exact h1) (by rw [kf j]; exact h2), p.rel.dom⟩, fun i hk => ⟨by rw [← kf i]; exact hk, rfl⟩⟩, kf, Rp.ex exB _ _ hd⟩
  rw [fin_get] at hs
  obtain ⟨s0, e0, rfl⟩ := Option.map_eq_some_iff.mp hs
  have hl : i < ss.length := (List.getElem?_eq_some_iff.mp e0).1
  have q := r.at_ i s0 e0
  cases s0 with
  | un => trivial
  | own c => exact absurd (kd_own e0) (noOwn_kd no)
  | val d0 =>
    obtain ⟨v0, q1, q2⟩ := q
    exact ⟨v0, q1, Rp.ex ex _ _ q2⟩
  | pin c =>
    obtain ⟨a0, q1, q2, _⟩ := q
    have k0 : kd (ss ++ List.replicate n .un) i = 2 := by rw [kd_app]; exact kd_pin e0
    obtain ⟨k1, k2⟩ := p.pn i k0
    obtain ⟨c', a', e', h1, h2, h3⟩ := p.rel.pin_at k1
    rw [k2, hσ i hl, q1] at h1
    cases h1
    simp only [finS, e']
    exact ⟨a0, q1, q2, h3.ex exB fun _ e => e⟩
theorem df_fun {P : Program} {w : World} {mg : Str → Option Value} {base : Heap} {x qual : Str} {st : Stmt} {f : Addr} {fd : FuncData} {N ps : List Str} {k : Nat} {m : MS} (F : Fun K x qual st f fd) (S : FnScope N ps (defScope st))
    (hbody : ∀ (cdv : Value) (A : Around) (outer : List PySem.Env) (s : Shared) (H : Hp) (E : XK), Room k (A.deeper (PyProof.Rows.envOfC qual (defScope st) s.heap.objs.size f cdv)) →
      PSs (cxOf CX0 P w K mg base N qual (defScope st) f cdv A outer s H E).nox (defBody st) (wS K cl Z0 m)) : FnOk P w K mg base CX0 (k + 1) f fd ps (spF K cl ps.length (mFun N.length m)) := by
  refine fun_ok F S (fun vs H Q E h => h.1) fun cdv A outer s H vs Q E hr h => ⟨_, hbody cdv A outer s H E hr, ?_⟩
  obtain ⟨hl, ss, O, r, q⟩ := h
  unfold mFun at q
  split at q
  case isFalse => exact q.elim
  rename_i no
  have hlen : ss.length = vs.length := by rw [r.len, List.length_map]
  have hσ : ∀ i, i < ss.length → (start N vs)[i]? = (vs.map some)[i]? := fun i hi => by
    unfold L2.start
    rw [List.getElem?_append_left (by rw [List.length_map, ← hlen]; exact hi)]
  have hpl : ps.length ≤ N.length := by have := congrArg List.length S.pre; rw [List.length_take] at this; omega
  have r0 : Rel K cl O (ss ++ List.replicate (N.length - ss.length) .un) (start N vs) H := by
    have lt : ∀ i, kd ss i ≠ 0 → i < ss.length := fun i hk => by
      by_cases h : i < ss.length
      · exact h
      · exact absurd (kd_none (List.getElem?_eq_none (by omega))) hk
    have hh : ∀ a, hid O (ss ++ List.replicate (N.length - ss.length) .un) (start N vs) a → hid O ss (vs.map some) a := fun a q => by
      rcases q with q | ⟨i, h1, _⟩
      · exact .inl q
      · rw [kd_app] at h1; exact absurd h1 (noOwn_kd no)
    have ex : Ex (vis O ss (vs.map some) H) (vis O (ss ++ List.replicate (N.length - ss.length) .un) (start N vs) H) := hide_le hh
    refine ⟨by unfold L2.start; simp [hlen], fun i s hs => ?_, fun i j a h1 h2 h3 h4 => ?_, r.dom⟩
    · by_cases hi : i < ss.length
      · rw [List.getElem?_append_left hi] at hs
        have q := r.at_ i s hs
        cases s with
        | un => trivial
        | val d =>
          obtain ⟨v, q1, q2⟩ := q
          exact ⟨v, by rw [hσ i hi]; exact q1, Rp.ex ex _ _ q2⟩
        | own c => exact absurd (kd_own hs) (noOwn_kd no)
        | pin c =>
          obtain ⟨v, q1, q2, q3⟩ := q
          exact ⟨v, by rw [hσ i hi]; exact q1, q2, q3.ex ex fun _ e => e⟩
      · rw [List.getElem?_append_right (by omega), List.getElem?_replicate] at hs
        split at hs
        · cases hs; trivial
        · cases hs
    · rw [kd_app] at h1 h2
      exact r.dist i j a h1 h2 (by rw [← hσ i (lt i h1)]; exact h3) (by rw [← hσ j (lt j h2)]; exact h4)
  refine ⟨_, O, r0, (Gd.bind.mp q).mono (fun o q1 => ?_) fun _ _ _ w => w⟩
  cases o with
  | nxt ρ' => exact fun σ' H' p => q1 .non H' (fin_back no r hσ r0 p (by simp only [Rp]))
  | ret d ρ' => exact fun v σ' H' p hd => q1 v H' (fin_back no r hσ r0 p hd)
  | brk ρ' => exact q1.elim
  | cnt ρ' => exact q1.elim

def okR {α : Type} : Res α → Option α
  | .ok a => some a
  | _ => none
@[simp] theorem okR_ok {α : Type} (a : α) : okR (Res.ok a) = some a := rfl
theorem okR_some {α : Type} {r : Res α} {a : α} (h : okR r = some a) : r = .ok a := by
  cases r <;> simp only [okR] at h <;> cases h
  rfl
def mCall (F : ME) (ma : MA) : ME := fun ρ => (ma ρ).bind fun x => (lft (okR (F (x.1.map .val)))).bind fun y => .ok (y.1, x.2)
theorem rel_vals {ds : List D} {vs : List V} (r : Rel K cl O ρ σ H) (h : Rps K cl (vis O ρ σ H) ds vs) : Rel K cl (hid O ρ σ) (ds.map .val) (vs.map some) H := by
  have kz : ∀ i, kd (ds.map Slot.val) i = 0 := fun i => by
    unfold kd
    rw [List.getElem?_map]
    cases ds[i]? <;> rfl
  refine ⟨by simp [h.length], fun i s hs => ?_, fun i j a h1 => absurd (kz i) h1, fun a ha => r.hid_some ha⟩
  rw [List.getElem?_map] at hs
  obtain ⟨d, e, rfl⟩ := Option.map_eq_some_iff.mp hs
  obtain ⟨v, e2, e3⟩ := h.get e
  refine ⟨v, by rw [List.getElem?_map, e2]; rfl, Rp.ex (hide_le fun a q => ?_) _ _ e3⟩
  rcases q with q | ⟨j, q1, _⟩
  · exact q
  · rw [kz j] at q1; cases q1
/-- behind a callee that was handed values alone -/
theorem call_back {ds : List D} {vs : List V} {d : D} {ss' : Env} {v : V} (r : Rel K cl O ρ σ H) (p : PoE K cl (hid O ρ σ) (ds.map .val) (vs.map some) H d ss' v H') : PoE K cl O ρ σ H d ρ v H' := by
  have kz : ∀ i, kd (ds.map Slot.val) i = 0 := fun i => by
    unfold kd
    rw [List.getElem?_map]
    cases ds[i]? <;> rfl
  have ex : Ex H H' := fun a o h => p.po.fr a o h fun ⟨i, h1, _⟩ => h1 (kz i)
  refine ⟨Po.of_ex r ex, fun _ => rfl, Rp.ex (hide_le fun a q => ?_) _ _ p.val⟩
  exact .inl q
variable {CX : CXT} {k : Nat} {f : Addr} {fd : FuncData} {ps : List Str} {F : ME} {mr : MA} {es : List Expr} {x : Str} {p : Pos}
theorem call_w {ta : TA} {mr : MA} {σ : L2.St} {H : Hp} {Q : VK} {n : Nat} (z : ZOk K cl Z) (h : wE K cl Z (mCall F mr) σ H Q) (hn : ∀ ds ρ ρ', mr ρ = .ok (ds, ρ') → ds.length = n) : tCall (spF K cl n F) [] E0 (wA K cl Z mr) σ H Q := by
  obtain ⟨ρ, O, r, q⟩ := h
  refine ⟨ρ, O, r, ?_⟩
  cases hm : mr ρ with
  | bad => unfold mCall at q; rw [hm] at q; exact q.elim
  | err c d ρ' => unfold mCall at q; rw [hm] at q; exact q
  | ok x =>
    obtain ⟨ds, ρ1⟩ := x
    unfold mCall at q
    rw [hm] at q
    simp only [bind_ok] at q
    obtain ⟨y, ey, q1⟩ := Gd.lft q
    intro vs H1 p1
    refine ⟨by rw [List.append_nil, ← p1.val.length]; exact hn ds ρ ρ1 hm, ds.map .val, hid O ρ1 σ, ?_, ?_⟩
    · rw [List.append_nil]; exact rel_vals p1.po.rel p1.val
    · rw [okR_some ey, List.append_nil]
      exact fun v H' p2 => q1 v H' (by
        have := call_back p1.po.rel p2
        exact ⟨p1.po.trans this.po, fun i => (p1.sh i).trans (this.sh i), this.val⟩)
/-- how many -/
def ALen (m : MA) (n : Nat) : Prop := ∀ ds ρ ρ', m ρ = .ok (ds, ρ') → ds.length = n
theorem ALen.nil : ALen mNil 0 := fun ds ρ ρ' h => by unfold mNil at h; cases h; rfl
theorem ALen.cons {m : ME} {mr : MA} {n : Nat} (h : ALen mr n) : ALen (mCons m mr) (n + 1) := fun ds ρ ρ' q => by
  unfold mCons at q
  cases e : m ρ with
  | bad => rw [e] at q; cases q
  | err c d r => rw [e] at q; cases q
  | ok x =>
    rw [e] at q
    simp only [bind_ok] at q
    cases e2 : mr x.2 with
    | bad => rw [e2] at q; cases q
    | err c d r => rw [e2] at q; cases q
    | ok y =>
      rw [e2] at q
      simp only [bind_ok] at q
      cases q
      have := h y.1 x.2 y.2 e2
      simp [this]
theorem de_call (z : ZOk X.K cl Z) (G : FnOk X.prog X.w X.K X.mg X.base CX0 k f fd ps (spF X.K cl ps.length F)) (hr : Room k X.A) (hg : Gl X x) (hm : X.mg x = some (.ref f)) (hk : PySem.W.keepIn X.K (.ref f) = true) (hb : Binds X.K fd ps []) (hn : ALen mr ps.length)
    (ha : PA X (a :: es) (wA X.K cl Z mr)) (hdb : (x == ("__debug__" : Str)) = false := by decide) (he : starEach (a :: es) X.env = (false, eval a X.env) :: starEach es X.env := by rfl) (hpl : (backTo pos (starEach es X.env)).any (·.1) = false := by rfl) :
    PE X (.Call (.Name x p) (a :: es) [] pos) (wE X.K cl Z (mCall F mr)) := (pe_call G hr hg hm hk hb .nil pass0 ha hdb he hpl).wk fun σ H Q h => call_w (ta := wA X.K cl Z mr) z h hn
theorem de_call0 (z : ZOk X.K cl Z) (G : FnOk X.prog X.w X.K X.mg X.base CX0 k f fd [] (spF X.K cl 0 F)) (hr : Room k X.A) (hg : Gl X x) (hm : X.mg x = some (.ref f)) (hk : PySem.W.keepIn X.K (.ref f) = true) (hb : Binds X.K fd [] [])
    (hdb : (x == ("__debug__" : Str)) = false := by decide) : PE X (.Call (.Name x p) [] [] pos) (wE X.K cl Z (mCall F mNil)) := (pe_call0 G hr hg hm hk hb .nil pass0 hdb).wk fun σ H Q h => by
  have q := call_w (ta := wA X.K cl Z mNil) z h ALen.nil
  obtain ⟨ρ, O, r, q⟩ := q
  exact q [] H ⟨Po.refl r, fun _ => rfl, Rps.nil⟩
/-- f(slot i, e, ..): the first one may be changed -/
def mCallM (F : ME) (i : Nat) (ma : MA) : ME := fun ρ => (lft (ctOf ρ i)).bind fun _ => (ma ρ).bind fun x => (lft (ctOf x.2 i)).bind fun c => (lft (okR (F (.pin c :: x.1.map .val)))).bind fun y => match y.2 with
  | .pin c' :: _ => .ok (y.1, setCt x.2 i c')
  | _ => .bad
theorem kd_pv {c : Ct} {ds : List D} {j : Nat} : kd (Slot.pin c :: ds.map .val) j = if j = 0 then 2 else 0 := by
  cases j with
  | zero => rfl
  | succ j =>
    unfold kd
    rw [List.getElem?_cons_succ, List.getElem?_map]
    cases ds[j]? <;> rfl
theorem rel_pinned {i : Nat} {c : Ct} {q : Addr} {ds : List D} {vs : List V} (r : Rel K cl O ρ σ H) (hc : ctOf ρ i = some c) (hp : σ[i]? = some (some (.ref q))) (h : Rps K cl (vis O ρ σ H) ds vs) :
    Rel K cl (hid O ρ σ) (.pin c :: ds.map .val) (some (.ref q) :: vs.map some) H := by
  have hk : kd ρ i ≠ 0 := by obtain ⟨_, _, _, z⟩ := r.ct hc; exact z
  have hq : hid O ρ σ q := r.mu_hid ⟨i, hk, hp⟩
  have ex : Ex (vis O ρ σ H) (vis (hid O ρ σ) (.pin c :: ds.map .val) (some (.ref q) :: vs.map some) H) := hide_le fun a z => by
    rcases z with z | ⟨j, z1, _⟩
    · exact z
    · rw [kd_pv] at z1; split at z1 <;> cases z1
  refine ⟨by simp [h.length], fun j s hs => ?_, fun j k a h1 h2 _ _ => ?_, fun a ha => r.hid_some ha⟩
  · cases j with
    | zero =>
      rw [List.getElem?_cons_zero] at hs
      cases hs
      obtain ⟨q', e1, e2, _⟩ := r.ct hc
      rw [hp] at e1; cases e1
      exact ⟨q, rfl, hq, e2.ex ex fun _ e => e⟩
    | succ j =>
      rw [List.getElem?_cons_succ, List.getElem?_map] at hs
      obtain ⟨d, e, rfl⟩ := Option.map_eq_some_iff.mp hs
      obtain ⟨v, e2, e3⟩ := h.get e
      exact ⟨v, by rw [List.getElem?_cons_succ, List.getElem?_map, e2]; rfl, Rp.ex ex _ _ e3⟩
  · rw [kd_pv] at h1 h2
    split at h1
    · split at h2
      · omega
      · exact absurd rfl h2
    · exact absurd rfl h1
theorem hid_pinned {c' : Ct} {ss : Env} {q : Addr} {vs : List V} (no : ∀ i, kd (Slot.pin c' :: ss) i ≠ 1) : ∀ a, hid (hid O ρ σ) (.pin c' :: ss) (some (.ref q) :: vs.map some) a → hid O ρ σ a := fun a z => by
  rcases z with z | ⟨j, z1, _⟩
  · exact z
  · exact absurd z1 (no j)
/-- behind a callee that was handed the slot's thing -/
theorem callM_back {i : Nat} {c c' : Ct} {q : Addr} {ds : List D} {vs : List V} {d : D} {ss : Env} {v : V} (r : Rel K cl O ρ σ H) (hc : ctOf ρ i = some c) (hp : σ[i]? = some (some (.ref q)))
    (p : PoE K cl (hid O ρ σ) (.pin c :: ds.map .val) (some (.ref q) :: vs.map some) H d (.pin c' :: ss) v H') : PoE K cl O ρ σ H d (setCt ρ i c') v H' := by
  have hk : kd ρ i ≠ 0 := by obtain ⟨_, _, _, z⟩ := r.ct hc; exact z
  have hq : hid O ρ σ q := r.mu_hid ⟨i, hk, hp⟩
  have kb : ∀ j, kd (Slot.pin c' :: ss) j = if j = 0 then 2 else 0 := fun j => by rw [← p.sh j, kd_pv]
  have nob : ∀ j, kd (Slot.pin c' :: ss) j ≠ 1 := fun j h => by rw [kb j] at h; split at h <;> cases h
  have mu : ∀ a, Mu (.pin c :: ds.map .val) (some (.ref q) :: vs.map some) a → a = q := fun a ⟨j, h1, h2⟩ => by
    rw [kd_pv] at h1
    split at h1
    · rename_i e; subst e; rw [List.getElem?_cons_zero] at h2; cases h2; rfl
    · exact absurd rfl h1
  have fr : ∀ a o, H a = some o → a ≠ q → H' a = some o := fun a o h1 h2 => p.po.fr a o h1 fun z => h2 (mu a z)
  have hh : hid O (setCt ρ i c') σ = hid O ρ σ := hid_sh fun j => kd_setCt.symm
  have exB : Ex (vis (hid O ρ σ) (.pin c' :: ss) (some (.ref q) :: vs.map some) H') (vis O (setCt ρ i c') σ H') := by
    unfold vis; rw [hh]
    exact hide_le fun a z => .inl z
  have exA : Ex (vis O ρ σ H) (vis O (setCt ρ i c') σ H') := by
    unfold vis; rw [hh]
    exact hide_mono fun a u z e => ⟨z, fr a u e fun w => z (by rw [w]; exact hq)⟩
  have hlen : (setCt ρ i c').length = ρ.length := by unfold setCt; split <;> simp
  obtain ⟨q', e1, _, hrc⟩ := p.po.rel.at_ 0 (.pin c') rfl
  rw [List.getElem?_cons_zero] at e1; cases e1
  have hrc' : Rc K cl (vis O (setCt ρ i c') σ H') H' c' q := hrc.ex exB fun _ e => e
  refine ⟨⟨fun a u h1 h2 => fr a u h1 fun z => h2 (by rw [z]; exact ⟨i, hk, hp⟩), fun a ⟨j, h1, h2⟩ => .inl ⟨j, by rw [← kd_setCt (c := c')]; exact h1, h2⟩, ⟨by rw [hlen, r.len], fun j s hs => ?_, fun j k a h1 h2 => r.dist j k a (by rw [← kd_setCt (c := c')]; exact h1) (by rw [← kd_setCt (c := c')]; exact h2), fun a h1 => p.po.rel.dom a (.inl h1)⟩, fun j hj => ⟨by rw [kd_setCt]; exact hj, rfl⟩⟩, fun j => kd_setCt.symm, Rp.ex exB _ _ p.val⟩
  by_cases hj : j = i
  · subst hj
    have z : ∃ c0, ρ[j]? = some (.own c0) ∧ s = .own c' ∨ ρ[j]? = some (.pin c0) ∧ s = .pin c' := by
      unfold ctOf at hc
      unfold setCt at hs
      split at hs
      · rename_i c0 e0
        rw [List.getElem?_set_self (List.getElem?_eq_some_iff.mp e0).1] at hs
        exact ⟨c0, .inl ⟨e0, (Option.some.inj hs).symm⟩⟩
      · rename_i c0 e0
        rw [List.getElem?_set_self (List.getElem?_eq_some_iff.mp e0).1] at hs
        exact ⟨c0, .inr ⟨e0, (Option.some.inj hs).symm⟩⟩
      · rename_i n1 n2
        split at hc
        · rename_i c0 e0; exact absurd e0 (n1 c0)
        · rename_i c0 e0; exact absurd e0 (n2 c0)
        · cases hc
    obtain ⟨c0, ⟨e0, rfl⟩ | ⟨e0, rfl⟩⟩ := z
    · obtain ⟨p', h1, h2, _⟩ := r.at_ j _ e0
      rw [hp] at h1; cases h1
      exact ⟨q, hp, h2, hrc'⟩
    · obtain ⟨p', h1, h2, _⟩ := r.at_ j _ e0
      rw [hp] at h1; cases h1
      exact ⟨q, hp, h2, hrc'⟩
  · have hs' : ρ[j]? = some s := by
      unfold setCt at hs
      split at hs
      · rw [List.getElem?_set_ne (Ne.symm hj)] at hs; exact hs
      · rw [List.getElem?_set_ne (Ne.symm hj)] at hs; exact hs
      · exact hs
    have z := r.at_ j s hs'
    have nep : ∀ a, kd ρ j ≠ 0 → σ[j]? = some (some (.ref a)) → a ≠ q := fun a h1 h2 w => by
      subst w
      exact hj (r.dist j i a h1 hk h2 hp)
    cases s with
    | un => trivial
    | val d =>
      obtain ⟨v, q1, q2⟩ := z
      exact ⟨v, q1, Rp.ex exA _ _ q2⟩
    | own c =>
      obtain ⟨v, q1, q2, q3⟩ := z
      exact ⟨v, q1, q2, q3.ex exA fun _ e => fr v _ e (nep v (by rw [kd_own hs']; decide) q1)⟩
    | pin c =>
      obtain ⟨v, q1, q2, q3⟩ := z
      exact ⟨v, q1, q2, q3.ex exA fun _ e => fr v _ e (nep v (by rw [kd_pin hs']; decide) q1)⟩
theorem de_callM (z : ZOk X.K cl Z) (i : Nat) (G : FnOk X.prog X.w X.K X.mg X.base CX0 k f fd ps (spF X.K cl ps.length F)) (hr : Room k X.A) (hg : Gl X x) (hm : X.mg x = some (.ref f)) (hk : PySem.W.keepIn X.K (.ref f) = true) (hb : Binds X.K fd ps []) {n : Nat} (hps : ps.length = n + 1) (hn : ALen mr n)
    (hv : PE X a (tVar i)) (ha : PA X es (wA X.K cl Z mr)) (hdb : (x == ("__debug__" : Str)) = false := by decide) (he : starEach (a :: es) X.env = (false, eval a X.env) :: starEach es X.env := by rfl) (hpl : (backTo pos (starEach es X.env)).any (·.1) = false := by rfl) :
    PE X (.Call (.Name x p) (a :: es) [] pos) (wE X.K cl Z (mCallM F i mr)) := (pe_call G hr hg hm hk hb .nil pass0 (pa_cons hv ha he) hdb he hpl).wk fun σ H Q ⟨ρ, O, r, q⟩ => by
  obtain ⟨c0, hc0, q⟩ := Gd.lft q
  obtain ⟨p0, hp0, _, _⟩ := r.ct hc0
  refine ⟨.ref p0, hp0, ?_⟩
  cases hmr : mr ρ with
  | bad => rw [hmr] at q; exact q.elim
  | err c d ρ' =>
    rw [hmr] at q
    exact ⟨ρ, O, r, by rw [hmr]; exact q⟩
  | ok y =>
    obtain ⟨ds, ρ1⟩ := y
    rw [hmr] at q
    simp only [bind_ok] at q
    refine ⟨ρ, O, r, ?_⟩
    rw [hmr]
    intro vs H1 p1
    obtain ⟨c, hc, q1⟩ := Gd.lft q
    obtain ⟨y, ey, q2⟩ := Gd.lft q1
    refine ⟨by rw [List.append_nil, List.length_cons, ← p1.val.length, hn ds ρ ρ1 hmr, hps], .pin c :: ds.map .val, hid O ρ1 σ, ?_, ?_⟩
    · rw [List.append_nil]
      exact rel_pinned p1.po.rel hc hp0 p1.val
    · rw [okR_some ey, List.append_nil]
      intro v H' p2
      obtain ⟨d', ss'⟩ := y
      cases ss' with
      | nil => exact q2.elim
      | cons s ss =>
        cases s with
        | pin c' =>
          have b := callM_back p1.po.rel hc hp0 p2
          exact q2 v H' ⟨p1.po.trans b.po, fun j => (p1.sh j).trans (b.sh j), b.val⟩
        | _ => exact q2.elim

/-! ### calls by keywords alone -/
theorem pe_callKO {CX : CXT} {ks : List Str} {kws : List Keyword} {sp : Sp} {E : XK} {tk : TA} {gk : List Value → List Value → List Value} {gV : List V → List V → List V} (G : FnOk X.prog X.w X.K X.mg X.base CX k f fd ps sp) (hr : Room k X.A) (hg : Gl X x) (hm : X.mg x = some (.ref f)) (hk : PySem.W.keepIn X.K (.ref f) = true) (hb : KBn X.K fd ps 0 ks gk gV) (hx : Passes CX X E)
    (hkw : PK X kws tk) (hall : (backToKw pos (keywordEach kws X.env)).all (·.1.isSome) = true := by rfl) (hks : (backToKw pos (keywordEach kws X.env)).filterMap (·.1) = ks := by rfl)
    (hdb : (x == ("__debug__" : Str)) = false := by decide) (hpl : ((backTo pos (starEach [] X.env)).any (·.1) || (backToKw pos (keywordEach kws X.env)).any (·.1.isNone)) = false := by rfl) :
    PE X (.Call (.Name x p) [] kws pos) (tCallN 0 ks.length sp gV E tNil tk) := by
  refine ⟨fun pins s σ H Q I h => ?_⟩
  refine wpAny_Call_Name_kw (ld_glob I hg hm ?_ hdb)
  refine PySem.W.callWith_KW0 (h₀ := X.base) I.ok.mod.kin hk hall ?_ hpl
  refine thn (hkw.run pos pins s σ H _ I h) fun ws s2 ⟨zs, H2, I2, rz, l1, l2, q2⟩ => ⟨I2.kIn, ?_⟩
  rw [hks]
  exact run_fnN G hr hb hx I2 .nil rz rfl l2 q2
theorem _root_.L2.PK.wk {kws : List Keyword} {t t' : TA} (h : PK X kws t) (k : ∀ σ H Q, t' σ H Q → t σ H Q) : PK X kws t' := ⟨fun pos pins s σ H Q I q => h.run pos pins s σ H Q I (k _ _ _ q)⟩
theorem dk_nil : PK X [] (wA X.K cl Z mNil) := pk_nil.wk fun σ H Q ⟨ρ, O, r, g⟩ => g _ _ ⟨Po.refl r, fun _ => rfl, Rps.nil⟩
theorem dk_cons {nm : Option Str} {kpos : Pos} {kws : List Keyword} (z : ZOk X.K cl Z) (ha : PE X a (wE X.K cl Z ma)) (hr : PK X kws (wA X.K cl Z mr)) : PK X (⟨nm, a, kpos⟩ :: kws) (wA X.K cl Z (mCons ma mr)) :=
  (pk_cons ha hr).wk fun σ H Q ⟨ρ, O, r, g⟩ => wE_then z r g fun d ρ1 v H1 p g1 => wA_then z p.po.rel g1 fun ds ρ2 vs H2 p2 g2 =>
    g2 _ _ ⟨p.po.trans p2.po, fun i => (p.sh i).trans (p2.sh i), Rps.cons (Rp.ex (p2.po.ex p.po.rel) _ _ p.val) p2.val⟩
/-- the keywords' values put in the parameters' order -/
def mPerm (is : List Nat) (ma : MA) : MA := fun ρ => (ma ρ).bind fun x => (lft (is.mapM fun i => x.1[i]?)).bind fun ds => .ok (ds, x.2)
theorem mapM_rps {Hv : Hp} {ds : List D} {vs : List V} (h : Rps K cl Hv ds vs) : ∀ {is : List Nat} {es : List D}, (is.mapM fun i => ds[i]?) = some es → ∃ ws, (is.mapM fun i => vs[i]?) = some ws ∧ Rps K cl Hv es ws
  | [], es, e => by simp at e; subst e; exact ⟨[], by simp, Rps.nil⟩
  | i :: is, es, e => by
    simp only [List.mapM_cons, Option.bind_eq_bind, Option.bind_eq_some_iff, Option.pure_def, Option.some.injEq] at e
    obtain ⟨d, e1, r, e2, rfl⟩ := e
    obtain ⟨v, h1, h2⟩ := h.get e1
    obtain ⟨ws, h3, h4⟩ := mapM_rps h e2
    exact ⟨v :: ws, by simp [h1, h3], Rps.cons h2 h4⟩
theorem de_callKO {ks : List Str} {kws : List Keyword} {is : List Nat} {gk : List Value → List Value → List Value} {gV : List V → List V → List V} (z : ZOk X.K cl Z) (G : FnOk X.prog X.w X.K X.mg X.base CX0 k f fd ps (spF X.K cl ps.length F)) (hr : Room k X.A) (hg : Gl X x) (hm : X.mg x = some (.ref f)) (hk : PySem.W.keepIn X.K (.ref f) = true) (hb : KBn X.K fd ps 0 ks gk gV)
    (hgv : ∀ zs ws : List V, (is.mapM fun i => zs[i]?) = some ws → gV [] zs = ws) (hl : is.length = ps.length) (hn : ALen mr ks.length)
    (hkw : PK X kws (wA X.K cl Z mr)) (hall : (backToKw pos (keywordEach kws X.env)).all (·.1.isSome) = true := by rfl) (hks : (backToKw pos (keywordEach kws X.env)).filterMap (·.1) = ks := by rfl)
    (hdb : (x == ("__debug__" : Str)) = false := by decide) (hpl : ((backTo pos (starEach [] X.env)).any (·.1) || (backToKw pos (keywordEach kws X.env)).any (·.1.isNone)) = false := by rfl) :
    PE X (.Call (.Name x p) [] kws pos) (wE X.K cl Z (mCall F (mPerm is mr))) := (pe_callKO G hr hg hm hk hb pass0 hkw hall hks hdb hpl).wk fun σ H Q ⟨ρ, O, r, q⟩ => by
  refine ⟨ρ, O, r, ?_⟩
  cases hmr : mr ρ with
  | bad => unfold mCall mPerm at q; rw [hmr] at q; exact q.elim
  | err c d ρ' => unfold mCall mPerm at q; rw [hmr] at q; exact q
  | ok y =>
    obtain ⟨ds, ρ1⟩ := y
    unfold mCall mPerm at q
    rw [hmr] at q
    simp only [bind_ok, bind_assoc] at q
    obtain ⟨es, he, q1⟩ := Gd.lft q
    obtain ⟨w, ew, q2⟩ := Gd.lft q1
    intro vs H1 p1
    obtain ⟨ws, h1, h2⟩ := mapM_rps p1.val he
    have hw : ws.length = ps.length := by
      rw [← hl]
      have : ∀ {is : List Nat} {ws : List V}, (is.mapM fun i => vs[i]?) = some ws → ws.length = is.length := by
        intro is
        induction is with
        | nil => intro ws e; simp at e; subst e; rfl
        | cons i is ih =>
          intro ws e
          simp only [List.mapM_cons, Option.bind_eq_bind, Option.bind_eq_some_iff, Option.pure_def, Option.some.injEq] at e
          obtain ⟨d, e1, r, e2, rfl⟩ := e
          simp [ih e2]
      exact this h1
    refine ⟨rfl, by rw [← p1.val.length]; exact hn ds ρ ρ1 hmr, ?_⟩
    rw [hgv vs ws h1]
    refine ⟨hw, es.map .val, hid O ρ1 σ, rel_vals p1.po.rel h2, ?_⟩
    rw [okR_some ew]
    exact fun v H' p2 => q2 v H' (by
      have := call_back p1.po.rel p2
      exact ⟨p1.po.trans this.po, fun i => (p1.sh i).trans (this.sh i), this.val⟩)

/-! ### fields of slotted instances -/
def opSlot (c i : Nat) : D → Option D
  | .obj c' fs => if c' = c then fs[i]? else none
  | _ => none
theorem de_slot {c i : Nat} {nm : Str} {pa : Addr} (z : ZOk X.K cl Z) (hc : SlX.SCls X.K (cl c)) (hs : SlX.Slot1 X.K (cl c) nm pa i) (ha : PE X a (wE X.K cl Z ma)) (hb : attributeBase a nm X.env (eval a X.env) = eval a X.env := by rfl) :
    PE X (.Attribute a nm pos) (wE X.K cl Z (mUn (opSlot c i) ma)) := (SlX.pe_sl ha hb).wk fun σ H Q ⟨ρ, O, r, g⟩ => wE_then z r g fun d ρ1 v H1 p1 g1 => by
    obtain ⟨d', e, g2⟩ := Gd.lft g1
    cases d <;> simp only [opSlot] at e <;> try (cases e; done)
    split at e
    · rename_i hcc
      subst hcc
      have hv := p1.val
      simp only [Rp] at hv
      obtain ⟨a, dx, vs, rfl, h1, h2⟩ := hv
      obtain ⟨v, e1, e2⟩ := h2.get e
      exact ⟨a, _, dx, pa, vs.map some, i, v, rfl, slt_ex (hide_ex H1 _) h1, hc, hs, by rw [List.getElem?_map, e1]; rfl, g2 v H1 ⟨p1.po, p1.sh, e2⟩⟩
    · cases e

/-! ### an index method of a written tuple of texts -/
def idxOf (ys : List Str) (x : Str) : Option Nat := match ys with
  | [] => none
  | y :: r => if y = x then some 0 else (idxOf r x).map (· + 1)
theorem idxOf_ok : ∀ {ys : List Str} {x : Str} {j : Nat}, idxOf ys x = some j → ys[j]? = some x ∧ ∀ m, m < j → ys[m]? ≠ some x
  | [], x, j, h => by simp [idxOf] at h
  | y :: r, x, j, h => by
    unfold idxOf at h
    split at h
    · rename_i e
      cases h
      exact ⟨by simp [e], fun m hm => absurd hm (Nat.not_lt_zero _)⟩
    · rename_i e
      obtain ⟨i, h1, rfl⟩ := Option.map_eq_some_iff.mp h
      obtain ⟨h2, h3⟩ := idxOf_ok h1
      refine ⟨by simpa using h2, fun m hm => ?_⟩
      cases m with
      | zero => simpa using e
      | succ m => simpa using h3 m (by omega)
def mIdx (ys : List Str) (mb : ME) : ME := fun ρ => (mb ρ).bind fun y => (lft (match y.1 with | .str s => idxOf ys s | _ => none)).bind fun j => .ok (.int (j : Nat), y.2)
theorem de_tupidx {apos cpos : Pos} {ys : List Str} {q : Addr} {ob : Obj} (z : ZOk X.K cl Z) (ho : PE X a (tC (.ref q))) (hq : ∀ H, SqT X.K H q (ys.map V.str)) (hK : X.K.lookup q = some ob) (hcl : ob.cls = .type "tuple") (hd : ob.dict = none) (he : PE X e (wE X.K cl Z mb))
    (hbase : attributeBase a "index" X.env (eval a X.env) = eval a X.env := by rfl)
    (hfew : ((backTo cpos (starEach [e] X.env)).all (fun x => !x.1) && (backToKw cpos (keywordEach [] X.env)).all (fun x => x.1.isSome) && decide ([e].length + ([] : List Keyword).length + (if ([] : List Keyword).isEmpty then 0 else 1) < 30)) = true := by rfl)
    (hline : (apos.endLine == cpos.line) = true := by rfl) (hs : starEach [e] X.env = (false, eval e X.env) :: starEach [] X.env := by rfl) (hplain : (backTo cpos (starEach [] X.env)).any (·.1) = false := by rfl) :
    PE X (.Call (.Attribute a "index" apos) [e] [] cpos) (wE X.K cl Z (mIdx ys mb)) :=
  (pe_bm PySem.F.plainAttrs_tuple PySem.F.slot_tuple_index PySem.F.type_tuple_index mt_tup_index ho (pa_cons he pa_nil hs) hbase hfew hline hs hplain).wk fun σ H Q ⟨ρ, O, r, g⟩ =>
    ⟨.inr (.inl ⟨rfl, ob, hK, hcl, hd⟩), wE_then z r g fun d ρ1 v H1 p1 g1 => by
      obtain ⟨j, ej, g2⟩ := Gd.lft g1
      cases d <;> simp only at ej <;> try (cases ej; done)
      have hv := p1.val
      simp only [Rp] at hv
      subst hv
      obtain ⟨h1, h2⟩ := idxOf_ok ej
      exact ⟨q, ys, _, j, rfl, rfl, hq H1, h1, h2, g2 _ H1 ⟨p1.po, p1.sh, by simp only [Rp]⟩⟩⟩

/-! ### dicts with keys that are texts -/
def mDNew : ML := fun ρ => .ok (.dct [], ρ)
theorem dl_dnew : PE X (.Dict [] [] pos) (wL X.K cl Z mDNew) := pe_dnewK.wk fun σ H Q ⟨ρ, O, r, g⟩ => fun t ht =>
  g t _ ⟨ht, Fr.of_ex (Ex.new ht), fun _ => rfl, r.laid ht, [], upd_same, by simp only [Rkv]⟩
def putD (kvs : List (Str × D)) (k : Str) (d : D) : List (Str × D) := if (kvs.any fun kv => decide (kv.1 = k)) = true then kvs.map (fun kv => if kv.1 = k then (kv.1, d) else kv) else kvs ++ [(k, d)]
theorem rkv_any {Hv : Hp} {k : Str} : ∀ {kvs : List (Str × D)} {ws : List (Key × V)}, Rkv K cl Hv kvs ws → (ws.any fun kv => decide (kv.1 = (Sum.inr k : Key))) = kvs.any fun kv => decide (kv.1 = k)
  | [], ws, h => by simp only [Rkv] at h; subst h; rfl
  | (k', d) :: kvs, ws, h => by
    simp only [Rkv] at h
    obtain ⟨v, r, rfl, _, h2⟩ := h
    rw [List.any_cons, List.any_cons, rkv_any h2, key_rr]
theorem rkv_len {Hv : Hp} : ∀ {kvs : List (Str × D)} {ws : List (Key × V)}, Rkv K cl Hv kvs ws → kvs.length = ws.length
  | [], ws, h => by simp only [Rkv] at h; subst h; rfl
  | (k', d) :: kvs, ws, h => by
    simp only [Rkv] at h
    obtain ⟨v, r, rfl, _, h2⟩ := h
    simp [rkv_len h2]
theorem rkv_map {Hv : Hp} {k : Str} {d : D} {v : V} (hd : Rp K cl Hv d v) : ∀ {kvs : List (Str × D)} {ws : List (Key × V)}, Rkv K cl Hv kvs ws → Rkv K cl Hv (kvs.map fun kv => if kv.1 = k then (kv.1, d) else kv) (ws.map fun kv => if kv.1 = (Sum.inr k : Key) then (kv.1, v) else kv)
  | [], ws, h => by simp only [Rkv] at h; subst h; simp only [List.map_nil, Rkv]
  | (k', d') :: kvs, ws, h => by
    simp only [Rkv] at h
    obtain ⟨v', r, rfl, h1, h2⟩ := h
    rw [List.map_cons, List.map_cons]
    by_cases e : k' = k
    · subst e
      simp only [if_true, Rkv]
      exact ⟨v, _, rfl, hd, rkv_map hd h2⟩
    · have e' : ¬ (Sum.inr k' : Key) = Sum.inr k := fun z => e (Sum.inr.inj z)
      simp only [e, e', if_false, Rkv]
      exact ⟨v', _, rfl, h1, rkv_map hd h2⟩
theorem rkv_app {Hv : Hp} {k : Str} {d : D} {v : V} (hd : Rp K cl Hv d v) : ∀ {kvs : List (Str × D)} {ws : List (Key × V)}, Rkv K cl Hv kvs ws → Rkv K cl Hv (kvs ++ [(k, d)]) (ws ++ [(Sum.inr k, v)])
  | [], ws, h => by
    simp only [Rkv] at h; subst h
    simp only [List.nil_append, Rkv]
    exact ⟨v, [], rfl, hd, rfl⟩
  | (k', d') :: kvs, ws, h => by
    simp only [Rkv] at h
    obtain ⟨v', r, rfl, h1, h2⟩ := h
    simp only [List.cons_append, Rkv]
    exact ⟨v', _, rfl, h1, rkv_app hd h2⟩
theorem rkv_put {Hv : Hp} {k : Str} {d : D} {v : V} {kvs : List (Str × D)} {ws : List (Key × V)} (hd : Rp K cl Hv d v) (h : Rkv K cl Hv kvs ws) : Rkv K cl Hv (putD kvs k d) (putK ws (Sum.inr k) v) := by
  unfold putD putK
  rw [rkv_any h]
  split
  · exact rkv_map hd h
  · exact rkv_app hd h
def ctD (ρ : Env) (i : Nat) : Option (List (Str × D)) := match ctOf ρ i with
  | some (.dct kvs) => some kvs
  | _ => none
theorem ctD_of {i : Nat} {ds : List (Str × D)} (h : ctD ρ i = some ds) : ctOf ρ i = some (.dct ds) := by
  unfold ctD at h
  split at h
  · rename_i e; cases h; exact e
  · cases h
theorem Rel.dct {i : Nat} {ds : List (Str × D)} (r : Rel K cl O ρ σ H) (h : ctD ρ i = some ds) : ∃ p vs, σ[i]? = some (some (.ref p)) ∧ H p = some (.dK vs) ∧ Rkv K cl (vis O ρ σ H) ds vs := by
  obtain ⟨p, h1, ⟨vs, h2, h3⟩, _⟩ := r.ct (ctD_of h)
  exact ⟨p, vs, h1, h2, h3⟩
/-- d[k] = v -/
def mDPut (i : Nat) (mv mk : ME) : MS := fun ρ => (mv ρ).bind fun x => (lft (ctD x.2 i)).bind fun _ => (mk x.2).bind fun y => (lft (asStr y.1)).bind fun s => (lft (ctD y.2 i)).bind fun kvs =>
  if kvs.length < sizeLine then .ok (.nxt (setCt y.2 i (.dct (putD kvs s x.1)))) else .bad
theorem ds_dput {mv mk : ME} {v ix : Expr} {spos : Pos} (z : ZOk X.K cl Z) (hu : X.A.units + 1 < cLine) (i : Nat) (ho : PE X a (tVar i)) (hv : PE X v (wE X.K cl Z mv)) (hi : PE X ix (wE X.K cl Z mk))
    (hs : swapsWith v (some (.Subscript a ix spos)) pos.line X.env = pure false := by rfl) : PS X (.Assign [.Subscript a ix spos] v pos) (wS X.K cl Z (mDPut i mv mk)) :=
  (ps_dput hu ho hi hv hs).wk fun D σ H ⟨ρ, O, r, q⟩ => wE_then z r q fun d0 ρ0 w H0 p0 q0 => by
    obtain ⟨ds0, hc0, q⟩ := Gd.lft q0
    obtain ⟨p, vs0, hp, h1, _⟩ := p0.po.rel.dct hc0
    refine ⟨.ref p, hp, wE_then z p0.po.rel q fun d ρ1 v H1 p1 q1 => ?_⟩
    obtain ⟨k, he', q2⟩ := Gd.lft q1
    obtain ⟨ds, hc, q3⟩ := Gd.lft q2
    simp only at hc q3 he'
    cases d <;> simp only [asStr] at he' <;> try (cases he'; done)
    cases he'
    obtain ⟨p', vs, hp', h2, h3⟩ := p1.po.rel.dct hc
    rw [hp] at hp'; cases hp'
    split at q3
    case isFalse => exact q3.elim
    rename_i hz
    have hv := p1.val
    simp only [Rp] at hv
    subst hv
    have hw' : Rp X.K cl (vis O ρ1 σ H1) d0 w := Rp.ex (p1.po.ex p0.po.rel) _ _ p0.val
    exact ⟨p, _, rfl, DPut.k (k := Sum.inr _) h2 (by rw [← rkv_len h3]; exact hz), q3 σ _ ((p0.po.trans p1.po).trans (Po.mut p1.po.rel (ctD_of hc) hp ⟨_, upd_same, rkv_put hw' h3⟩))⟩
/-- a written dict: keys that are texts -/
def mKvs : List (Str × ME) → Env → Res (List (Str × D) × Env)
  | [], ρ => .ok ([], ρ)
  | (k, m) :: r, ρ => (m ρ).bind fun x => (mKvs r x.2).bind fun y => .ok ((k, x.1) :: y.1, y.2)
def nodupS : List Str → Bool
  | [] => true
  | k :: r => !r.contains k && nodupS r
def mDisp (kms : List (Str × ME)) : ML := fun ρ => (mKvs kms ρ).bind fun x => .ok (.dct x.1, x.2)
end
end DF
namespace DF
open PySem PySem.Spec L2 Evl

/-! ### a def, ready to be called -/
def Ok (P : Program) (w : World) (K : PySem.W.Frag) (cl : Nat → Addr) (mg : Str → Option Value) (base : Heap) (k : Nat) (x : Str) (ps : List Str) (F : ME) : Prop :=
  ∃ f fd, FnOk P w K mg base CX0 k f fd ps (spF K cl ps.length F) ∧ mg x = some (.ref f) ∧ PySem.W.keepIn K (.ref f) = true ∧ Binds K fd ps [] ∧ ∃ oc od osl, K.lookup f = some ⟨oc, od, .func fd, osl⟩
/-- a def of the text as it stands behind the top -/
def Def (K : PySem.W.Frag) (mg : Str → Option Value) (x : Str) (st : Stmt) : Prop := ∃ f fd, FunD K x x (defArgs st) (defBody st) (defScope st) [] [] f fd ∧ mg x = some (.ref f)
section
variable {P : Program} {w : World} {K : PySem.W.Frag} {cl : Nat → Addr} {mg : Str → Option Value} {base : Heap}
theorem Ok.mono {j k : Nat} {x : Str} {ps : List Str} {F : ME} (h : Ok P w K cl mg base j x ps F) (hk : j ≤ k) : Ok P w K cl mg base k x ps F := by
  obtain ⟨f, fd, G, a⟩ := h
  exact ⟨f, fd, G.mono hk, a⟩
/-- nothing is said -/
theorem FunD.look {x qual : Str} {params : Arguments} {body : List Stmt} {scope : Scope} {dvs : List V} {kws : List (Str × V)} {f : Addr} {fd : FuncData} (F : FunD K x qual params body scope dvs kws f fd) : ∃ oc od osl, K.lookup f = some ⟨oc, od, .func fd, osl⟩ := by
  obtain ⟨oc, od, dV, kV, doc, pm, an, cdv, ct, osl, e, lk, _⟩ := F.ex
  exact ⟨oc, od, osl, lk⟩
theorem Ok.none {x : Str} {st : Stmt} {ps : List Str} (F : Def K mg x st)
    (hb : ∀ (kV doc pm : Value) (an : Option Addr) (cdv ct : Value) (us : List Value), us.length = ps.length → bindArgs (PySem.W.fnOf x x (defArgs st) (defBody st) (defScope st) .none kV doc pm an cdv ct) ⟨us, []⟩ = pure (ps.zip us)) (k : Nat) : Ok P w K cl mg base k x ps (fun _ => .bad) := by
  obtain ⟨f, fd, F, g⟩ := F
  refine ⟨f, fd, ⟨fun vs H Q E h => h.1, fun A outer s H args us vs Q E _ _ _ _ h => ?_⟩, g, F.kp, F.bindsN hb, FunD.look F⟩
  obtain ⟨_, ρ, O, r, q⟩ := h
  exact q.elim
theorem ok_def {x : Str} {st : Stmt} {N ps : List Str} {k : Nat} {m : MS} (F : Def K mg x st) (S : FnScope N ps (defScope st))
    (hb : ∀ (kV doc pm : Value) (an : Option Addr) (cdv ct : Value) (us : List Value), us.length = ps.length → bindArgs (PySem.W.fnOf x x (defArgs st) (defBody st) (defScope st) .none kV doc pm an cdv ct) ⟨us, []⟩ = pure (ps.zip us))
    (hbody : ∀ (f : Addr) (cdv : Value) (A : Around) (outer : List PySem.Env) (s : Shared) (H : Hp) (E : XK), Room k (A.deeper (PyProof.Rows.envOfC x (defScope st) s.heap.objs.size f cdv)) →
      PSs (cxOf CX0 P w K mg base N x (defScope st) f cdv A outer s H E).nox (defBody st) (wS K cl Z0 m)) : Ok P w K cl mg base (k + 1) x ps (mFun N.length m) := by
  obtain ⟨f, fd, F, g⟩ := F
  have F' : Fun K x x st f fd := by
    obtain ⟨oc, od, dV, kV, doc, pm, an, cdv, ct, osl, e, lk, hcd, hD, _⟩ := F.ex
    have hd : dV = .none := by
      rcases hD with ⟨_, e⟩ | ⟨e, _⟩
      · exact e
      · exact absurd rfl e
    subst hd
    exact ⟨⟨oc, od, kV, doc, pm, an, cdv, ct, osl, e, lk, hcd⟩, F.kp⟩
  exact ⟨f, fd, df_fun F' S (hbody f), g, F.kp, F.bindsN hb, FunD.look F⟩
end
section
variable {X : Cx} {cl : Nat → Addr} {Z : ZK} {a b c e : Expr} {ma mb mc : ME} {pos : Pos} {es : List Expr} {mr : MA} {x : Str} {p : Pos} {ps : List Str} {F : ME} {j k : Nat}
theorem Room.u1 {A : Around} {k : Nat} (hr : Room k A) : A.units + 1 < cLine := hu_of hr
theorem Room.u65 {A : Around} {k : Nat} (hr : Room k A) : A.units + 65 < cLine := by have := hr.un; omega
/-- a name of the def -/
theorem dv (i : Nat) (hN : X.N[i]? = some x := by rfl) (hv : Vis X.env.scope x := by first | exact Or.inl rfl | exact Or.inr (Or.inl rfl) | exact Or.inr (Or.inr rfl)) (hd : (x == ("__debug__" : Str)) = false := by decide)
    (hcd : (x == ("__classdict__" : Str)) = false := by decide) : PE X (.Name x pos) (wE X.K cl Z (mVar i)) := de_var i hN hv hd hcd
theorem de_gint {i : Int} (h : ∃ t, X.mg x = some (.int i t)) (hg : Gl X x := by rfl) (hd : (x == ("__debug__" : Str)) = false := by decide) : PE X (.Name x pos) (wE X.K cl Z (mC (.int i))) := by
  obtain ⟨t, h⟩ := h
  exact de_c (pe_glob (v := .int i) hg h ⟨t, rfl⟩ hd) fun H => by simp only [Rp]
theorem de_gstr {i : Str} (h : ∃ t, X.mg x = some (.str i t)) (hg : Gl X x := by rfl) (hd : (x == ("__debug__" : Str)) = false := by decide) : PE X (.Name x pos) (wE X.K cl Z (mC (.str i))) := by
  obtain ⟨t, h⟩ := h
  exact de_c (pe_glob (v := .str i) hg h ⟨t, rfl⟩ hd) fun H => by simp only [Rp]
/-- a written thing that stands for d in every heap -/
theorem de_gref {d : D} (h : ∃ q, X.mg x = some (.ref q) ∧ ∀ H, Rp X.K cl H d (.ref q)) (hg : Gl X x := by rfl) (hd : (x == ("__debug__" : Str)) = false := by decide) : PE X (.Name x pos) (wE X.K cl Z (mC d)) := by
  obtain ⟨q, h, hr⟩ := h
  exact de_c (pe_glob (v := .ref q) hg h rfl hd) hr
theorem de_callX (z : ZOk X.K cl Z) (h : Ok X.prog X.w X.K cl X.mg X.base k x ps F) (hr : Room j X.A) (hk : k ≤ j) (hn : ALen mr ps.length) (ha : PA X (a :: es) (wA X.K cl Z mr)) (hg : Gl X x := by rfl)
    (hdb : (x == ("__debug__" : Str)) = false := by decide) (he : starEach (a :: es) X.env = (false, eval a X.env) :: starEach es X.env := by rfl) (hpl : (backTo pos (starEach es X.env)).any (·.1) = false := by rfl) :
    PE X (.Call (.Name x p) (a :: es) [] pos) (wE X.K cl Z (mCall F mr)) := by
  obtain ⟨f, fd, G, g, kp, bd, _⟩ := h
  exact de_call z G (hr.mono hk) hg g kp bd hn ha hdb he hpl
theorem de_callX0 (z : ZOk X.K cl Z) (h : Ok X.prog X.w X.K cl X.mg X.base k x [] F) (hr : Room j X.A) (hk : k ≤ j) (hg : Gl X x := by rfl) (hdb : (x == ("__debug__" : Str)) = false := by decide) :
    PE X (.Call (.Name x p) [] [] pos) (wE X.K cl Z (mCall F mNil)) := by
  obtain ⟨f, fd, G, g, kp, bd, _⟩ := h
  exact de_call0 z G (hr.mono hk) hg g kp bd hdb
theorem de_callMX {n : Nat} (i : Nat) (z : ZOk X.K cl Z) (h : Ok X.prog X.w X.K cl X.mg X.base k x ps F) (hr : Room j X.A) (hk : k ≤ j) (hps : ps.length = n + 1) (hn : ALen mr n) (hv : PE X a (tVar i)) (ha : PA X es (wA X.K cl Z mr)) (hg : Gl X x := by rfl)
    (hdb : (x == ("__debug__" : Str)) = false := by decide) (he : starEach (a :: es) X.env = (false, eval a X.env) :: starEach es X.env := by rfl) (hpl : (backTo pos (starEach es X.env)).any (·.1) = false := by rfl) :
    PE X (.Call (.Name x p) (a :: es) [] pos) (wE X.K cl Z (mCallM F i mr)) := by
  obtain ⟨f, fd, G, g, kp, bd, _⟩ := h
  exact de_callM z i G (hr.mono hk) hg g kp bd hps hn hv ha hdb he hpl
/-- keywords alone; is: which keyword stands for which parameter -/
def OkK (P : Program) (w : World) (K : PySem.W.Frag) (cl : Nat → Addr) (mg : Str → Option Value) (base : Heap) (k : Nat) (x : Str) (ps ks : List Str) (is : List Nat) (F : ME) : Prop :=
  ∃ f fd, FnOk P w K mg base CX0 k f fd ps (spF K cl ps.length F) ∧ mg x = some (.ref f) ∧ PySem.W.keepIn K (.ref f) = true ∧ ∃ gk gV, KBn K fd ps 0 ks gk gV ∧ ∀ zs ws : List V, (is.mapM fun i => zs[i]?) = some ws → gV [] zs = ws
theorem de_callKX {ks : List Str} {kws : List Keyword} {is : List Nat} (z : ZOk X.K cl Z) (h : OkK X.prog X.w X.K cl X.mg X.base k x ps ks is F) (hr : Room j X.A) (hk : k ≤ j) (hl : is.length = ps.length) (hn : ALen mr ks.length)
    (hkw : PK X kws (wA X.K cl Z mr)) (hg : Gl X x := by rfl) (hall : (backToKw pos (keywordEach kws X.env)).all (·.1.isSome) = true := by rfl) (hks : (backToKw pos (keywordEach kws X.env)).filterMap (·.1) = ks := by rfl)
    (hdb : (x == ("__debug__" : Str)) = false := by decide) (hpl : ((backTo pos (starEach [] X.env)).any (·.1) || (backToKw pos (keywordEach kws X.env)).any (·.1.isNone)) = false := by rfl) :
    PE X (.Call (.Name x p) [] kws pos) (wE X.K cl Z (mCall F (mPerm is mr))) := by
  obtain ⟨f, fd, G, g, kp, gk, gV, hb, hgv⟩ := h
  exact de_callKO z G (hr.mono hk) hg g kp hb hgv hl hn hkw hall hks hdb hpl

def permV {α : Type} (is : List Nat) (d : α) (ws : List α) : List α := is.map fun i => ws.getD i d
theorem permV_rel : ∀ (is : List Nat) {zs : List V} {ws : List Value}, Vals zs ws → Vals (permV is .non zs) (permV is .none ws)
  | [], zs, ws, h => .nil
  | i :: is, zs, ws, h => by
    refine .cons ?_ (permV_rel is h)
    show RelV (zs.getD i .non) (ws.getD i .none)
    rw [List.getD_eq_getElem?_getD, List.getD_eq_getElem?_getD]
    cases e : zs[i]? with
    | none =>
      have h1 := Vals.none_of h e
      rw [h1]
      exact rfl
    | some v =>
      obtain ⟨u, h1, h2⟩ := Vals.get h e
      rw [h1]
      exact h2
theorem permV_eq {zs : List V} : ∀ {is : List Nat} {ws : List V}, (is.mapM fun i => zs[i]?) = some ws → permV is .non zs = ws
  | [], ws, e => by simp at e; subst e; rfl
  | i :: is, ws, e => by
    simp only [List.mapM_cons, Option.bind_eq_bind, Option.bind_eq_some_iff, Option.pure_def, Option.some.injEq] at e
    obtain ⟨d, e1, r, e2, rfl⟩ := e
    show zs.getD i .non :: permV is .non zs = d :: r
    rw [permV_eq e2, List.getD_eq_getElem?_getD, e1]
    rfl
theorem Ok.kw {P : Program} {w : World} {K : PySem.W.Frag} {mg : Str → Option Value} {base : Heap} {st : Stmt} {ks : List Str} (is : List Nat) (h : Ok P w K cl mg base k x ps F) (D : Def K mg x st)
    (hb : ∀ (kV doc pm : Value) (an : Option Addr) (cdv ct : Value) (ws : List Value), ws.length = ks.length → bindArgs (PySem.W.fnOf x x (defArgs st) (defBody st) (defScope st) .none kV doc pm an cdv ct) ⟨[], ks.zip ws⟩ = pure (ps.zip (permV is .none ws))) : OkK P w K cl mg base k x ps ks is F := by
  obtain ⟨f, fd, G, g, kp, bd, oc, od, osl, lk⟩ := h
  obtain ⟨f', fd', F', g'⟩ := D
  rw [g] at g'; cases g'
  obtain ⟨oc', od', dV, kV, doc, pm, an, cdv, ct, osl', e, lk', hcd, hD, _⟩ := F'.ex
  have hd : dV = .none := by
    rcases hD with ⟨_, e⟩ | ⟨e, _⟩
    · exact e
    · exact absurd rfl e
  subst hd
  rw [lk] at lk'
  cases lk'
  subst e
  refine ⟨f, _, G, g, kp, fun us ws => us ++ permV is .none ws, fun vs zs => vs ++ permV is .non zs, ⟨fun s us ws _ h1 h2 => ?_, fun r1 r2 => r1.append (permV_rel is r2)⟩, fun zs ws e => permV_eq e⟩
  have : us = [] := List.length_eq_zero_iff.mp h1
  subst this
  exact .of_eq (hb kV doc pm an cdv ct ws h2)

/-! ### new lists -/
/-- list(x) -/
def ctList : List D → Option Ct
  | [.lst ds] => some (.lst ds)
  | [.tup ds] => some (.lst ds)
  | _ => none
def mListL (mr : MA) : ML := fun ρ => (mr ρ).bind fun x => (lft (ctList x.1)).bind fun c => .ok (c, x.2)
theorem PoA.newL {K : PySem.W.Frag} {O : Addr → Prop} {ρ ρ1 : Env} {σ : L2.St} {H H1 : Hp} {t : Addr} {ds : List D} {vs : List V} (r : Rel K cl O ρ σ H) (p : PoT K cl O ρ σ H ρ1 H1) (ht : H1 t = none) (h : Rps K cl (vis O ρ1 σ H1) ds vs) :
    PoL K cl O ρ σ H (.lst ds) ρ1 t (upd H1 t (.lst vs)) := by
  refine ⟨fresh_before r p ht, p.po.fr.trans (Fr.of_ex (M := Mu ρ1 σ) (Ex.new ht)) p.po.mu, p.sh, p.po.rel.laid ht, vs, upd_same, Rps.ex ?_ _ _ h⟩
  exact hide_mono fun a u h e => by
    have ne : a ≠ t := fun z => by rw [z, ht] at e; cases e
    refine ⟨fun z => ?_, by rw [upd_ne ne]; exact e⟩
    rcases hid_ins.mp z with z | z
    · exact h z
    · exact ne z
theorem dl_list (z : ZOk X.K cl Z) (hm : X.mg "list" = none) (ha : PA X [a] (wA X.K cl Z mr)) (hg : Gl X "list" := by rfl) (he : starEach [a] X.env = (false, eval a X.env) :: starEach [] X.env := by rfl) (hpl : (backTo pos (starEach [] X.env)).any (·.1) = false := by rfl) :
    PE X (.Call (.Name "list" p) [a] [] pos) (wL X.K cl Z (mListL mr)) :=
  (pe_callTy call_list_of hg hm PyProof.Rows.boot_list ha (by decide) (by decide) he hpl).wk fun σ H Q ⟨ρ, O, r, g⟩ => wA_then z r g fun ds ρ1 vs H1 p1 g1 => by
    obtain ⟨c, e, g2⟩ := Gd.lft g1
    simp only at e
    unfold ctList at e
    split at e
    · cases e
      obtain ⟨v, rfl, h1⟩ := rps1 p1.val
      simp only [Rp] at h1
      obtain ⟨q, ws, rfl, h2, h3⟩ := h1
      exact ⟨q, ws, rfl, .inl (SqL.of (hide_at h2)), fun t ht => g2 t _ (PoA.newL r p1.poT ht h3)⟩
    · cases e
      obtain ⟨v, rfl, h1⟩ := rps1 p1.val
      simp only [Rp] at h1
      obtain ⟨q, ws, rfl, h2, h3⟩ := h1
      exact ⟨q, ws, rfl, .inr (hide_seqT h2), fun t ht => g2 t _ (PoA.newL r p1.poT ht h3)⟩
    · cases e
/-- list(range(a)), list(range(a, b)) -/
def rgL : List D → Option (List D)
  | [.int b] => if 0 ≤ b ∧ b ≤ 16777216 then some (rngD 0 b.toNat) else none
  | _ => none
def mListRg (me : ME) : ML := fun ρ => (me ρ).bind fun x => (lft (rgL [x.1])).bind fun ds => .ok (.lst ds, x.2)
theorem rps_rng {K : PySem.W.Frag} {H : Hp} (n : Nat) : Rps K cl H (rngD 0 n) ((List.range n).map fun i => V.int (0 + (i : Nat))) := by
  unfold rngD
  generalize List.range n = l
  induction l with
  | nil => exact Rps.nil
  | cons i l ih => exact Rps.cons (by simp only [Rp]) ih
theorem dl_listRg {p2 pos2 : Pos} (z : ZOk X.K cl Z) (hc : X.calm = true) (hm : X.mg "list" = none) (hm2 : X.mg "range" = none) (ha : PE X a (wE X.K cl Z ma)) (hg : Gl X "list" := by rfl) (hg2 : Gl X "range" := by rfl)
    (na : starEach [a] X.env = (false, eval a X.env) :: starEach [] X.env := by rfl) (na2 : starEach [.Call (.Name "range" p2) [a] [] pos2] X.env = (false, eval (.Call (.Name "range" p2) [a] [] pos2) X.env) :: starEach [] X.env := by rfl) :
    PE X (.Call (.Name "list" p) [.Call (.Name "range" p2) [a] [] pos2] [] pos) (wL X.K cl Z (mListRg ma)) :=
  (pe_listRg hc hg hm (prg_1 hg2 hm2 ha na) na2).wk fun σ H Q ⟨ρ, O, r, g⟩ => wE_then z r g fun d ρ1 v H1 p1 g1 => by
    obtain ⟨ds, e, g2⟩ := Gd.lft g1
    cases d <;> simp only [rgL] at e <;> try (cases e; done)
    split at e
    · rename_i b hz
      cases e
      have hv := p1.val
      simp only [Rp] at hv
      refine ⟨b, hv, RgOk.of_le (by omega) hz.2 (by omega) hz.1, fun t ht => ?_⟩
      have : rgV 0 b = (List.range b.toNat).map fun i => V.int (0 + (i : Nat)) := by
        unfold rgV
        rw [Int.sub_zero]
      rw [this]
      exact g2 t _ (PoA.newL r p1.poT ht (rps_rng _))
    · cases e

/-! ### a written dict, keys that are texts -/
theorem rkv_merge {K : PySem.W.Frag} {Hv : Hp} : ∀ {more : List (Str × D)} {ws : List (Key × V)} {kvs : List (Str × D)} {vs : List (Key × V)}, Rkv K cl Hv more ws → Rkv K cl Hv kvs vs → Rkv K cl Hv (more.foldl (fun acc kv => putD acc kv.1 kv.2) kvs) (mergeK vs ws)
  | [], ws, kvs, vs, h, r => by simp only [Rkv] at h; subst h; exact r
  | (k, d) :: more, ws, kvs, vs, h, r => by
    simp only [Rkv] at h
    obtain ⟨v, ws', rfl, h1, h2⟩ := h
    show Rkv K cl Hv (more.foldl (fun acc kv => putD acc kv.1 kv.2) (putD kvs k d)) (mergeK (putK vs (Sum.inr k) v) ws')
    exact rkv_merge h2 (rkv_put h1 r)
/-- pairs of readings: keys that are written texts -/
inductive PPd (X : Cx) (cl : Nat → Addr) (Z : ZK) (pos : Pos) : List (Option Expr) → List Expr → List (TE × TE) → List (Str × ME) → Prop
  | nil : PPd X cl Z pos [] [] [] []
  | cons {k : Str} {ek ev : Expr} {ks : List (Option Expr)} {vs : List Expr} {trs : List (TE × TE)} {m : ME} {kms : List (Str × ME)} (hk : PE X ek (tC (.str k))) (hv : PE X ev (wE X.K cl Z m)) (r : PPd X cl Z pos ks vs trs kms) :
      PPd X cl Z pos (some ek :: ks) (ev :: vs) ((tC (.str k), wE X.K cl Z m) :: trs) ((k, m) :: kms)
theorem PPd.pps {ks : List (Option Expr)} {vs : List Expr} {trs : List (TE × TE)} {kms : List (Str × ME)} (h : PPd X cl Z pos ks vs trs kms) : PPs X pos ks vs trs := by
  induction h with
  | nil => exact pps_nil
  | cons hk hv _ ih => exact pps_cons hk hv ih
theorem PPd.run {β : Type} {ks : List (Option Expr)} {vs : List Expr} {trs : List (TE × TE)} {kms : List (Str × ME)} (z : ZOk X.K cl Z) (h : PPd X cl Z pos ks vs trs kms) : ∀ {O : Addr → Prop} {ρ : Env} {σ : L2.St} {H : Hp} {f : List (Str × D) × Env → Res β} {S : β → Prop} {R : List (V × V) → Hp → Prop},
    Rel X.K cl O ρ σ H → Gd ((mKvs kms ρ).bind f) S (Z O ρ σ H) →
    (∀ kvs ρ1 ws H1, PoT X.K cl O ρ σ H ρ1 H1 → kvs.length = kms.length → Rkv X.K cl (vis O ρ1 σ H1) kvs ws → Gd (f (kvs, ρ1)) S (Z O ρ1 σ H1) → R (ws.map fun kv => (kV kv.1, kv.2)) H1) → tPairs trs σ H R := by
  induction h with
  | nil =>
    intro O ρ σ H f S R r g k
    exact k [] ρ [] H (PoT.refl r) rfl (by simp only [Rkv]) g
  | @cons k0 ek ev ks vs trs m kms hk hv _ ih =>
    intro O ρ σ H f S R r g k
    show wE X.K cl Z m σ H fun y H2 => tPairs trs σ H2 fun ps H3 => R ((V.str k0, y) :: ps) H3
    unfold mKvs at g
    rw [bind_assoc] at g
    refine wE_then z r g fun d ρ1 v H1 p1 g1 => ?_
    rw [bind_assoc] at g1
    refine ih p1.po.rel g1 fun kvs ρ2 ws H2 p2 hl hr g2 => ?_
    exact k ((k0, d) :: kvs) ρ2 ((.inr k0, v) :: ws) H2 (p1.poT.seq p2) (by simp [hl]) (by simp only [Rkv]; exact ⟨v, ws, rfl, Rp.ex (p2.po.ex p1.po.rel) _ _ p1.val, hr⟩) g2
def mDispD (kms : List (Str × ME)) : ML := fun ρ => (mKvs kms ρ).bind fun x => .ok (.dct (x.1.foldl (fun acc kv => putD acc kv.1 kv.2) []), x.2)
theorem dl_disp {ks : List (Option Expr)} {vs : List Expr} {trs : List (TE × TE)} {kms : List (Str × ME)} (hZ : Z = Z0) (h : PPd X cl Z pos ks vs trs kms) (hall : ks.all (·.isSome) = true := by rfl) (hl : ks.length = vs.length := by rfl) (h0 : ks ≠ [] := by intro h; cases h) (h15 : ks.length ≤ 15 := by decide) (hk : kms.length ≤ 15 := by decide) :
    PE X (.Dict ks vs pos) (wL X.K cl Z (mDispD kms)) := by
  subst hZ
  refine (pe_disp h.pps hall hl h0 h15).wk fun σ H Q ⟨ρ, O, r, g⟩ => fun t ht => ?_
  have rel0 := r.laid (o := .dK []) ht
  have g' : Gd ((mKvs kms ρ).bind fun x => Res.ok (Ct.dct (x.1.foldl (fun acc kv => putD acc kv.1 kv.2) []), x.2)) (fun x => ∀ p H', PoL X.K cl O ρ σ H x.1 x.2 p H' → Q (.ref p) H') (Z0 (ins O t) ρ σ (upd H t (.dK []))) := Gd.mono g (fun _ w => w) fun _ _ _ w => w
  refine h.run Z0.ok (O := ins O t) rel0 g' fun kvs ρ1 ws H1 p1 hlen hr g1 => ?_
  have npm : ¬ Mu ρ σ t := fun m => r.mu_some m ht
  have e1 : H1 t = some (.dK []) := p1.po.fr t _ upd_same npm
  refine ⟨e1, ws, rfl, by rw [← rkv_len hr, hlen]; exact hk, ?_⟩
  have np : ∀ j, kd ρ1 j ≠ 0 → σ[j]? ≠ some (some (.ref t)) := fun j h1 h2 => npm ⟨j, by rw [p1.sh j]; exact h1, h2⟩
  obtain ⟨u1, u2⟩ := p1.po.rel.upd_hidden (o := .dK (mergeK [] ws)) (.inr rfl) np
  refine g1 t _ ⟨ht, fun a o h1 h2 => ?_, p1.sh, u1, mergeK [] ws, upd_same, Rkv.ex u2 _ _ (rkv_merge hr (by simp only [Rkv]))⟩
  have ne : a ≠ t := fun z => by rw [z, ht] at h1; cases h1
  rw [upd_ne ne]
  exact p1.po.fr a o (by rw [upd_ne ne]; exact h1) h2
end
/-- how many turns a while may take: by an int in a slot -/
def fuelAbs (i : Nat) : Env → Nat := fun ρ => match ρ[i]? with
  | some (.val (.int b)) => b.natAbs + 1
  | _ => 0
end DF
namespace DF
open PySem PySem.Spec L2 Evl

theorem Room.u64 {A : Around} {k : Nat} (hr : Room k A) : A.units + 64 < cLine := by have := hr.un; omega
section
variable {X : Cx} {cl : Nat → Addr} {Z : ZK} {a b c e : Expr} {ma mb mc : ME} {pos : Pos} {es : List Expr} {mr : MA} {x : Str} {p : Pos} {ps : List Str} {F : ME} {j k : Nat}
/-! ### written tuples and strings by name -/
theorem rps_flat {K : PySem.W.Frag} {H : Hp} : ∀ {ds : List D} {vs : List V}, toFs ds = some vs → Rps K cl H ds vs
  | [], vs, h => by simp only [toFs, Option.some.injEq] at h; subst h; exact Rps.nil
  | d :: ds, vs, h => by
    simp only [toFs] at h
    split at h
    · rename_i v ws e1 e2
      cases h
      refine .cons ?_ (rps_flat e2)
      cases d <;> simp only [toF, Option.some.injEq] at e1 <;> first | (subst e1; simp only [Rp]) | cases e1
    · cases h
theorem de_gtup {ds : List D} (vs : List V) (hv : toFs ds = some vs) {R : Addr → Prop} (h : ∃ q, X.mg x = some (.ref q) ∧ (∀ H, SqT X.K H q vs) ∧ R q) (hg : Gl X x := by rfl) (hd : (x == ("__debug__" : Str)) = false := by decide) :
    PE X (.Name x pos) (wE X.K cl Z (mC (.tup ds))) := by
  obtain ⟨q, h, hr, _⟩ := h
  refine de_gref ⟨q, h, fun H => ?_⟩ hg hd
  simp only [Rp]
  exact ⟨q, vs, rfl, hr H, rps_flat hv⟩
theorem pe_gstr {i : Str} (h : ∃ t, X.mg x = some (.str i t)) (hg : Gl X x := by rfl) (hd : (x == ("__debug__" : Str)) = false := by decide) : PE X (.Name x pos) (tC (.str i)) := by
  obtain ⟨t, h⟩ := h
  exact pe_glob (v := .str i) hg h ⟨t, rfl⟩ hd
theorem de_tupidxX {apos cpos npos : Pos} {ys : List Str} {vs : List V} (z : ZOk X.K cl Z) (h : ∃ q, X.mg x = some (.ref q) ∧ (∀ H, SqT X.K H q vs) ∧ ∃ ob, X.K.lookup q = some ob ∧ ob.cls = .type "tuple" ∧ ob.dict = none) (he : PE X e (wE X.K cl Z mb)) (hvs : vs = ys.map V.str := by rfl) (hg : Gl X x := by rfl) (hd : (x == ("__debug__" : Str)) = false := by decide)
    (hbase : attributeBase (.Name x npos) "index" X.env (eval (.Name x npos) X.env) = eval (.Name x npos) X.env := by rfl)
    (hfew : ((backTo cpos (starEach [e] X.env)).all (fun x => !x.1) && (backToKw cpos (keywordEach [] X.env)).all (fun x => x.1.isSome) && decide ([e].length + ([] : List Keyword).length + (if ([] : List Keyword).isEmpty then 0 else 1) < 30)) = true := by rfl)
    (hline : (apos.endLine == cpos.line) = true := by rfl) (hs : starEach [e] X.env = (false, eval e X.env) :: starEach [] X.env := by rfl) (hplain : (backTo cpos (starEach [] X.env)).any (·.1) = false := by rfl) :
    PE X (.Call (.Attribute (.Name x npos) "index" apos) [e] [] cpos) (wE X.K cl Z (mIdx ys mb)) := by
  subst hvs
  obtain ⟨q, h1, h2, ob, h3, h4, h5⟩ := h
  exact de_tupidx z (pe_glob (v := .ref q) hg h1 rfl hd) h2 h3 h4 h5 he hbase hfew hline hs hplain
theorem de_slotX {c i : Nat} {nm : Str} (z : ZOk X.K cl Z) (hc : SlX.SCls X.K (cl c)) (hs : ∃ pa, SlX.Slot1 X.K (cl c) nm pa i) (ha : PE X a (wE X.K cl Z ma)) (hb : attributeBase a nm X.env (eval a X.env) = eval a X.env := by rfl) : PE X (.Attribute a nm pos) (wE X.K cl Z (mUn (opSlot c i) ma)) := by
  obtain ⟨pa, hs⟩ := hs
  exact de_slot z hc hs ha hb

/-! ### a def whose answer is a new list -/
section
variable {K : PySem.W.Frag} {O : Addr → Prop} {ρ ρ' ρ1 ρ2 : Env} {σ σ' σ1 σ2 : L2.St} {H H' H1 H2 : Hp} {st : Stmt} {sts : List Stmt}
abbrev MSL := Env → Res (Ct × Env)
structure PoF (K : PySem.W.Frag) (cl : Nat → Addr) (O : Addr → Prop) (ρ : Env) (σ : L2.St) (H : Hp) (c : Ct) (p : Addr) (H' : Hp) : Prop where
  new : H p = none
  fr : Fr (Mu ρ σ) H H'
  val : Rc K cl (hide H' (ins O p)) H' c p
def wSL (K : PySem.W.Frag) (cl : Nat → Addr) (Z : ZK) (m : MSL) : TS := fun D σ H => ∃ ρ O, Rel K cl O ρ σ H ∧ Gd (m ρ) (fun x => ∀ p H', PoF K cl O ρ σ H x.1 p H' → D.rt (.ref p) H') (Z O ρ σ H)
def mRetL (m : ML) : MSL := m
theorem ds_retL {ml : ML} (he : PE X e (wL X.K cl Z ml)) : PS X (.Return (some e) pos) (wSL X.K cl Z (mRetL ml)) :=
  (ps_ret he).wk fun D σ H ⟨ρ, O, r, g⟩ => ⟨ρ, O, r, g.mono (fun y q v H' p => q v H' ⟨p.new, p.fr, p.val.ex (hide_le fun a z => .inl z) fun _ e => e⟩) fun _ _ _ w => w⟩
def plainE : Env → Bool
  | [] => true
  | .own _ :: _ => false
  | .pin _ :: _ => false
  | _ :: r => plainE r
theorem plainE_kd : ∀ {ρ : Env}, plainE ρ = true → ∀ i, kd ρ i = 0
  | [], _, i => rfl
  | .un :: r, h, 0 => rfl
  | .val _ :: r, h, 0 => rfl
  | .un :: r, h, i + 1 => plainE_kd (ρ := r) h i
  | .val _ :: r, h, i + 1 => plainE_kd (ρ := r) h i
theorem plainE_mu {ρ : Env} (h : plainE ρ = true) (σ : L2.St) (a : Addr) : ¬ Mu ρ σ a := fun ⟨i, h1, _⟩ => h1 (plainE_kd h i)
def mSeqL (m1 : MS) (m2 : MSL) : MSL := fun ρ => if plainE ρ = true then (m1 ρ).bind fun o => match o with
  | .nxt ρ' => m2 ρ'
  | _ => .bad else .bad
theorem dsl_one {m : MSL} (h : PS X st (wSL X.K cl Z m)) : PSs X [st] (wSL X.K cl Z m) := pss_one h
theorem PoF.back {c : Ct} {p : Addr} (hp : plainE ρ = true) (a : Po K cl O ρ σ H ρ1 σ1 H1) (b : PoF K cl O ρ1 σ1 H1 c p H2) : PoF K cl O ρ σ H c p H2 :=
  ⟨fr_some a.fr (plainE_mu hp σ p) b.new, a.fr.trans b.fr a.mu, b.val⟩
theorem dsl_cons {m1 : MS} {m2 : MSL} (z : ZOk X.K cl Z) (h1 : PS X st (wS X.K cl Z m1)) (h2 : PSs X sts (wSL X.K cl Z m2)) : PSs X (st :: sts) (wSL X.K cl Z (mSeqL m1 m2)) :=
  (pss_cons h1 h2).wk fun D σ H ⟨ρ, O, r, g⟩ => by
    unfold mSeqL at g
    split at g
    case isFalse => exact g.elim
    rename_i hp
    refine ⟨ρ, O, r, (Gd.bind.mp g).mono (fun o q => ?_) fun _ _ _ w => w⟩
    cases o with
    | nxt ρ1 => exact fun σ1 H1 p => ⟨ρ1, O, p.rel, q.mono (fun x q2 a H' b => q2 a H' (b.back hp p)) fun c d ρ' w => z.mono r p w⟩
    | ret d ρ' => exact q.elim
    | brk ρ' => exact q.elim
    | cnt ρ' => exact q.elim
def spFL (K : PySem.W.Frag) (cl : Nat → Addr) (n : Nat) (F : ML) : Sp := fun vs H Q _ => vs.length = n ∧ ∃ ρ O, Rel K cl O ρ (vs.map some) H ∧ Gd (F ρ) (fun x => ∀ p H', PoF K cl O ρ (vs.map some) H x.1 p H' → Q (.ref p) H') fun _ _ _ => False
def mFunL (n : Nat) (m : MSL) : ML := fun ss => if plainE ss = true then m (ss ++ List.replicate (n - ss.length) .un) else .bad
theorem plain_start {N : List Str} {ss : Env} {vs : List V} (hp : plainE ss = true) (r : Rel K cl O ss (vs.map some) H) (hn : vs.length ≤ N.length) : Rel K cl O (ss ++ List.replicate (N.length - ss.length) .un) (L2.start N vs) H := by
  have hlen : ss.length = vs.length := by rw [r.len, List.length_map]
  have kz : ∀ i, kd (ss ++ List.replicate (N.length - ss.length) .un) i = 0 := fun i => by rw [kd_app]; exact plainE_kd hp i
  refine ⟨by unfold L2.start; simp [hlen], fun i s hs => ?_, fun i j a h1 => absurd (kz i) h1, r.dom⟩
  by_cases hi : i < ss.length
  · rw [List.getElem?_append_left hi] at hs
    have q := r.at_ i s hs
    cases s with
    | un => trivial
    | val d =>
      obtain ⟨v, q1, q2⟩ := q
      refine ⟨v, ?_, Rp.ex (hide_le fun a w => ?_) _ _ q2⟩
      · unfold L2.start
        rw [List.getElem?_append_left (by rw [List.length_map, ← hlen]; exact hi)]
        exact q1
      · rcases w with w | ⟨i, h1, _⟩
        · exact .inl w
        · rw [kz i] at h1; cases h1
    | own c => have := plainE_kd hp i; rw [kd_own hs] at this; cases this
    | pin c => have := plainE_kd hp i; rw [kd_pin hs] at this; cases this
  · rw [List.getElem?_append_right (by omega), List.getElem?_replicate] at hs
    split at hs
    · cases hs; trivial
    · cases hs
theorem dfl_fun {P : Program} {w : World} {mg : Str → Option Value} {base : Heap} {x qual : Str} {st : Stmt} {f : Addr} {fd : FuncData} {N ps : List Str} {k : Nat} {m : MSL} (F : Fun K x qual st f fd) (S : FnScope N ps (defScope st))
    (hbody : ∀ (cdv : Value) (A : Around) (outer : List PySem.Env) (s : Shared) (H : Hp) (E : XK), Room k (A.deeper (PyProof.Rows.envOfC qual (defScope st) s.heap.objs.size f cdv)) →
      PSs (cxOf CX0 P w K mg base N qual (defScope st) f cdv A outer s H E).nox (defBody st) (wSL K cl Z0 m)) : FnOk P w K mg base CX0 (k + 1) f fd ps (spFL K cl ps.length (mFunL N.length m)) := by
  refine fun_ok F S (fun vs H Q E h => h.1) fun cdv A outer s H vs Q E hr h => ⟨_, hbody cdv A outer s H E hr, ?_⟩
  obtain ⟨hl, ss, O, r, q⟩ := h
  unfold mFunL at q
  split at q
  case isFalse => exact q.elim
  rename_i hp
  have hlen : ss.length = vs.length := by rw [r.len, List.length_map]
  have hpl : ps.length ≤ N.length := by have := congrArg List.length S.pre; rw [List.length_take] at this; omega
  refine ⟨_, O, plain_start hp r (by omega), q.mono (fun x q2 p H' b => q2 p H' ⟨b.new, fun a o h1 _ => b.fr a o h1 fun ⟨i, h3, _⟩ => ?_, b.val⟩) fun _ _ _ w => w⟩
  rw [kd_app, plainE_kd hp] at h3
  exact h3 rfl
def OkL (P : Program) (w : World) (K : PySem.W.Frag) (cl : Nat → Addr) (mg : Str → Option Value) (base : Heap) (k : Nat) (x : Str) (ps : List Str) (F : ML) : Prop :=
  ∃ f fd, FnOk P w K mg base CX0 k f fd ps (spFL K cl ps.length F) ∧ mg x = some (.ref f) ∧ PySem.W.keepIn K (.ref f) = true ∧ Binds K fd ps []
theorem ok_defL {P : Program} {w : World} {mg : Str → Option Value} {base : Heap} {x : Str} {st : Stmt} {N ps : List Str} {k : Nat} {m : MSL} (F : Def K mg x st) (S : FnScope N ps (defScope st))
    (hb : ∀ (kV doc pm : Value) (an : Option Addr) (cdv ct : Value) (us : List Value), us.length = ps.length → bindArgs (PySem.W.fnOf x x (defArgs st) (defBody st) (defScope st) .none kV doc pm an cdv ct) ⟨us, []⟩ = pure (ps.zip us))
    (hbody : ∀ (f : Addr) (cdv : Value) (A : Around) (outer : List PySem.Env) (s : Shared) (H : Hp) (E : XK), Room k (A.deeper (PyProof.Rows.envOfC x (defScope st) s.heap.objs.size f cdv)) →
      PSs (cxOf CX0 P w K mg base N x (defScope st) f cdv A outer s H E).nox (defBody st) (wSL K cl Z0 m)) : OkL P w K cl mg base (k + 1) x ps (mFunL N.length m) := by
  obtain ⟨f, fd, F, g⟩ := F
  have F' : Fun K x x st f fd := by
    obtain ⟨oc, od, dV, kV, doc, pm, an, cdv, ct, osl, e, lk, hcd, hD, _⟩ := F.ex
    have hd : dV = .none := by
      rcases hD with ⟨_, e⟩ | ⟨e, _⟩
      · exact e
      · exact absurd rfl e
    subst hd
    exact ⟨⟨oc, od, kV, doc, pm, an, cdv, ct, osl, e, lk, hcd⟩, F.kp⟩
  exact ⟨f, fd, dfl_fun F' S (hbody f), g, F.kp, F.bindsN hb⟩

/-! ### calls that give or take a new list -/
theorem Rel.laidE {q : Addr} (r : Rel K cl O ρ σ H) (hq : H q = none) (e : Ex H H') (hq' : H' q ≠ none) : Rel K cl (ins O q) ρ σ H' := by
  cases e' : H' q with
  | none => exact absurd e' hq'
  | some o =>
    refine (r.laid (o := o) hq).ex fun a u h => ?_
    by_cases h1 : a = q
    · subst h1
      rw [upd_same] at h; cases h; exact e'
    · rw [upd_ne h1] at h; exact e a u h
def mCallL (F : ML) (ma : MA) : ML := fun ρ => (ma ρ).bind fun x => (lft (okR (F (x.1.map .val)))).bind fun y => .ok (y.1, x.2)
theorem vals_kd {ds : List D} (i : Nat) : kd (ds.map Slot.val) i = 0 := by
  unfold kd
  rw [List.getElem?_map]
  cases ds[i]? <;> rfl
theorem callL_w {ta : TA} {mr : MA} {n : Nat} {σ : L2.St} {H : Hp} {Q : VK} {F : ML} (z : ZOk K cl Z) (h : wL K cl Z (mCallL F mr) σ H Q) (hn : ALen mr n) : tCall (spFL K cl n F) [] E0 (wA K cl Z mr) σ H Q := by
  obtain ⟨ρ, O, r, q⟩ := h
  refine ⟨ρ, O, r, ?_⟩
  cases hm : mr ρ with
  | bad => unfold mCallL at q; rw [hm] at q; exact q.elim
  | err c d ρ' => unfold mCallL at q; rw [hm] at q; exact q
  | ok x =>
    obtain ⟨ds, ρ1⟩ := x
    unfold mCallL at q
    rw [hm] at q
    simp only [bind_ok] at q
    obtain ⟨y, ey, q1⟩ := Gd.lft q
    intro vs H1 p1
    refine ⟨by rw [List.append_nil, ← p1.val.length]; exact hn ds ρ ρ1 hm, ds.map .val, hid O ρ1 σ, ?_, ?_⟩
    · rw [List.append_nil]; exact rel_vals p1.po.rel p1.val
    · rw [okR_some ey, List.append_nil]
      intro t H' b
      have ex : Ex H1 H' := fun a o h => b.fr a o h fun ⟨i, h1, _⟩ => h1 (vals_kd i)
      refine q1 t H' ⟨fresh_before r p1.poT b.new, p1.po.fr.trans (Fr.of_ex (M := Mu ρ1 σ) ex) p1.po.mu, p1.sh, p1.po.rel.laidE b.new ex b.val.some, b.val.ex (hide_le fun a w => ?_) fun _ e => e⟩
      rcases w with w | w
      · rcases w with w | w
        · exact .inl (.inl w)
        · exact .inr w
      · exact .inl (.inr w)
theorem dl_callX {F : ML} (z : ZOk X.K cl Z) (h : OkL X.prog X.w X.K cl X.mg X.base k x ps F) (hr : Room j X.A) (hk : k ≤ j) (hn : ALen mr ps.length) (ha : PA X (a :: es) (wA X.K cl Z mr)) (hg : Gl X x := by rfl)
    (hdb : (x == ("__debug__" : Str)) = false := by decide) (he : starEach (a :: es) X.env = (false, eval a X.env) :: starEach es X.env := by rfl) (hpl : (backTo pos (starEach es X.env)).any (·.1) = false := by rfl) :
    PE X (.Call (.Name x p) (a :: es) [] pos) (wL X.K cl Z (mCallL F mr)) := by
  obtain ⟨f, fd, G, g, kp, bd⟩ := h
  exact (pe_call G (hr.mono hk) hg g kp bd .nil pass0 ha hdb he hpl).wk fun σ H Q h => callL_w (ta := wA X.K cl Z mr) z h hn

/-- f(new list, e, ..): the callee may change it -/
def mCallML (F : ME) (ml : ML) (ma : MA) : ME := fun ρ => (ml ρ).bind fun x => (ma x.2).bind fun y => (lft (okR (F (.pin x.1 :: y.1.map .val)))).bind fun u => match u.2 with
  | .pin _ :: _ => .ok (u.1, y.2)
  | _ => .bad
theorem Rel.frame {q : Addr} (r : Rel K cl O ρ σ H) (fr : ∀ a o, H a = some o → a ≠ q → H' a = some o) (hO : O q) (hm : ¬ Mu ρ σ q) (hq : H' q ≠ none) : Rel K cl O ρ σ H' := by
  have ex : Ex (vis O ρ σ H) (vis O ρ σ H') := hide_mono fun a u z e => ⟨z, fr a u e fun w => z (by rw [w]; exact .inl hO)⟩
  refine ⟨r.len, fun i s hs => ?_, r.dist, fun a ha => ?_⟩
  · have z := r.at_ i s hs
    cases s with
    | un => trivial
    | val d =>
      obtain ⟨v, q1, q2⟩ := z
      exact ⟨v, q1, Rp.ex ex _ _ q2⟩
    | own c =>
      obtain ⟨v, q1, q2, q3⟩ := z
      exact ⟨v, q1, q2, q3.ex ex fun o e => fr v o e fun w => hm (by rw [← w]; exact ⟨i, by rw [kd_own hs]; decide, q1⟩)⟩
    | pin c =>
      obtain ⟨v, q1, q2, q3⟩ := z
      exact ⟨v, q1, q2, q3.ex ex fun o e => fr v o e fun w => hm (by rw [← w]; exact ⟨i, by rw [kd_pin hs]; decide, q1⟩)⟩
  · by_cases h : a = q
    · rw [h]; exact hq
    · cases e : H a with
      | none => exact absurd e (r.dom a ha)
      | some o => rw [fr a o e h]; exact Option.some_ne_none _
theorem rel_pin0 {c : Ct} {q : Addr} {ds : List D} {vs : List V} (r : Rel K cl O ρ σ H) (hq : O q) (hc : Rc K cl (vis O ρ σ H) H c q) (h : Rps K cl (vis O ρ σ H) ds vs) :
    Rel K cl (hid O ρ σ) (.pin c :: ds.map .val) (some (.ref q) :: vs.map some) H := by
  have ex : Ex (vis O ρ σ H) (vis (hid O ρ σ) (.pin c :: ds.map .val) (some (.ref q) :: vs.map some) H) := hide_le fun a z => by
    rcases z with z | ⟨j, z1, _⟩
    · exact z
    · rw [kd_pv] at z1; split at z1 <;> cases z1
  refine ⟨by simp [h.length], fun j s hs => ?_, fun j k a h1 h2 _ _ => ?_, fun a ha => r.hid_some ha⟩
  · cases j with
    | zero =>
      rw [List.getElem?_cons_zero] at hs
      cases hs
      exact ⟨q, rfl, .inl hq, hc.ex ex fun _ e => e⟩
    | succ j =>
      rw [List.getElem?_cons_succ, List.getElem?_map] at hs
      obtain ⟨d, e, rfl⟩ := Option.map_eq_some_iff.mp hs
      obtain ⟨v, e2, e3⟩ := h.get e
      exact ⟨v, by rw [List.getElem?_cons_succ, List.getElem?_map, e2]; rfl, Rp.ex ex _ _ e3⟩
  · rw [kd_pv] at h1 h2
    split at h1
    · split at h2
      · omega
      · exact absurd rfl h2
    · exact absurd rfl h1
theorem callML_back {c c' : Ct} {q : Addr} {ds : List D} {vs : List V} {d : D} {ss : Env} {v : V} (r0 : Rel K cl O ρ σ H) (l : PoL K cl O ρ σ H c ρ1 q H1) (p1 : PoA K cl (ins O q) ρ1 σ H1 ds ρ2 vs H2)
    (p : PoE K cl (hid (ins O q) ρ2 σ) (.pin c :: ds.map .val) (some (.ref q) :: vs.map some) H2 d (.pin c' :: ss) v H') : PoE K cl O ρ σ H d ρ2 v H' := by
  have mu : ∀ a, Mu (.pin c :: ds.map .val) (some (.ref q) :: vs.map some) a → a = q := fun a ⟨j, h1, h2⟩ => by
    rw [kd_pv] at h1
    split at h1
    · rename_i e; subst e; rw [List.getElem?_cons_zero] at h2; cases h2; rfl
    · exact absurd rfl h1
  have fr : ∀ a o, H2 a = some o → a ≠ q → H' a = some o := fun a o h1 h2 => p.po.fr a o h1 fun z => h2 (mu a z)
  have sh : ∀ i, kd ρ i = kd ρ2 i := fun i => (l.sh i).trans (p1.sh i)
  have nq : ¬ Mu ρ σ q := fun z => r0.mu_some z l.new
  have nq2 : ¬ Mu ρ2 σ q := fun ⟨i, h1, h2⟩ => nq ⟨i, by rw [sh i]; exact h1, h2⟩
  obtain ⟨q', e1, _, hrc⟩ := p.po.rel.at_ 0 (.pin c') rfl
  rw [List.getElem?_cons_zero] at e1; cases e1
  have rf : Rel K cl (ins O q) ρ2 σ H' := p1.po.rel.frame fr (.inr rfl) nq2 hrc.some
  have hpin : ∀ i, kd ρ2 i = 2 → ∃ a, σ[i]? = some (some (.ref a)) ∧ O a := fun i h => by
    obtain ⟨_, a, _, h2, h3, _⟩ := r0.pin_at (i := i) (by rw [sh i]; exact h)
    exact ⟨a, h2, h3⟩
  have rl : Rel K cl O ρ2 σ H' := rf.less hpin
  refine ⟨⟨fun a o h1 h2 => ?_, fun a ⟨i, h1, h2⟩ => .inl ⟨i, by rw [sh i]; exact h1, h2⟩, rl, fun i h => ⟨by rw [← sh i]; exact h, rfl⟩⟩, sh, Rp.ex (hide_le fun a w => ?_) _ _ p.val⟩
  · have n1 : ¬ Mu ρ1 σ a := fun ⟨i, h3, h4⟩ => h2 ⟨i, by rw [l.sh i]; exact h3, h4⟩
    exact fr a o (p1.po.fr a o (l.fr a o h1 h2) n1) fun w => by rw [w, l.new] at h1; cases h1
  · refine .inl ?_
    rcases w with w | w
    · exact .inl (.inl w)
    · exact .inr w
theorem de_callMLX {n : Nat} {ml : ML} {a : Expr} (z : ZOk X.K cl Z0) (h : Ok X.prog X.w X.K cl X.mg X.base k x ps F) (hr : Room j X.A) (hk : k ≤ j) (hps : ps.length = n + 1) (hn : ALen mr n) (hl : PE X a (wL X.K cl Z0 ml)) (ha : PA X es (wA X.K cl Z0 mr)) (hg : Gl X x := by rfl)
    (hdb : (x == ("__debug__" : Str)) = false := by decide) (he : starEach (a :: es) X.env = (false, eval a X.env) :: starEach es X.env := by rfl) (hpl : (backTo pos (starEach es X.env)).any (·.1) = false := by rfl) :
    PE X (.Call (.Name x p) (a :: es) [] pos) (wE X.K cl Z0 (mCallML F ml mr)) := by
  obtain ⟨f, fd, G, g, kp, bd, _⟩ := h
  refine (pe_call G (hr.mono hk) hg g kp bd .nil pass0 (pa_cons hl ha he) hdb he hpl).wk fun σ H Q ⟨ρ, O, r, q⟩ => ?_
  refine ⟨ρ, O, r, (Gd.bind.mp q).mono (fun y q1 t H1 l => ?_) fun _ _ _ w => w⟩
  obtain ⟨c, ρ1⟩ := y
  simp only at q1 l
  refine ⟨ρ1, ins O t, l.rel, ?_⟩
  cases hmr : mr ρ1 with
  | bad => rw [hmr] at q1; exact q1.elim
  | err c d ρ' => rw [hmr] at q1; exact q1.elim
  | ok y =>
    obtain ⟨ds, ρ2⟩ := y
    rw [hmr] at q1
    simp only [bind_ok] at q1
    intro vs H2 p1
    obtain ⟨u, eu, q2⟩ := Gd.lft q1
    have sh : ∀ i, kd ρ i = kd ρ1 i := l.sh
    have nq : ¬ Mu ρ1 σ t := fun ⟨i, h1, h2⟩ => r.mu_some (a := t) ⟨i, by rw [sh i]; exact h1, h2⟩ l.new
    refine ⟨by rw [List.append_nil, List.length_cons, ← p1.val.length, hn ds ρ1 ρ2 hmr, hps], .pin c :: ds.map .val, hid (ins O t) ρ2 σ, ?_, ?_⟩
    · rw [List.append_nil]
      exact rel_pin0 p1.po.rel (.inr rfl) (l.val.ex (p1.po.ex l.rel) fun o e => p1.po.fr t o e nq) p1.val
    · rw [okR_some eu, List.append_nil]
      intro v H' p2
      obtain ⟨d', ss'⟩ := u
      cases ss' with
      | nil => exact q2.elim
      | cons s ss =>
        cases s with
        | pin c' => exact q2 v H' (callML_back r l p1 p2)
        | _ => exact q2.elim
end
end
end DF
namespace DF
open PySem PySem.Spec L2 Evl

section
variable {K : PySem.W.Frag} {cl : Nat → Addr} {O : Addr → Prop} {ρ ρ' : Env} {σ σ' : L2.St} {H H' H1 H2 : Hp}
/-! ### plain frames -/
def ev (m : ME) (ρ : Env) : Option D := (okR (m ρ)).map (·.1)
def et (m : MT) (ρ : Env) : Option Bool := (okR (m ρ)).map (·.1)
theorem wE_pl {m : ME} {Q : VK} {d : D} (hp : plainE ρ = true) (r : Rel K cl O ρ σ H) (e : ev m ρ = some d) (k : ∀ v H', Ex H H' → Rp K cl (hide H' O) d v → Q v H') : wE K cl Z0 m σ H Q := by
  obtain ⟨⟨d', ρ'⟩, e1, e2⟩ := Option.map_eq_some_iff.mp e
  simp only at e2
  subst e2
  refine ⟨ρ, O, r, ?_⟩
  rw [okR_some e1]
  intro v H' p
  exact k v H' (fun a o h => p.po.fr a o h (plainE_mu hp σ a)) (Rp.ex (hide_le fun a z => .inl z) _ _ p.val)
theorem wT_pl {m : MT} {Q : Bool → Hp → Prop} {b : Bool} (hp : plainE ρ = true) (r : Rel K cl O ρ σ H) (e : et m ρ = some b) (k : ∀ H', Ex H H' → Q b H') : wT K cl Z0 m σ H Q := by
  obtain ⟨⟨d', ρ'⟩, e1, e2⟩ := Option.map_eq_some_iff.mp e
  simp only at e2
  subst e2
  refine ⟨ρ, O, r, ?_⟩
  rw [okR_some e1]
  intro H' p
  exact k H' (fun a o h => p.po.fr a o h (plainE_mu hp σ a))
theorem rel_of (hl : ρ.length = σ.length) (hp : plainE ρ = true) (hv : ∀ (i : Nat) (d : D), ρ[i]? = some (Slot.val d) → ∃ v, σ[i]? = some (some v) ∧ Rp K cl (hide H O) d v) (dom : ∀ a, O a → H a ≠ none) : Rel K cl O ρ σ H := by
  refine ⟨hl, fun i s hs => ?_, fun i j a h1 => absurd (plainE_kd hp i) h1, dom⟩
  cases s with
  | un => trivial
  | val d =>
    obtain ⟨v, h1, h2⟩ := hv i d hs
    refine ⟨v, h1, Rp.ex (hide_le fun a z => ?_) _ _ h2⟩
    rcases z with z | ⟨j, z, _⟩
    · exact z
    · rw [plainE_kd hp j] at z; cases z
  | own c => have := plainE_kd hp i; rw [kd_own hs] at this; cases this
  | pin c => have := plainE_kd hp i; rw [kd_pin hs] at this; cases this

/-! ### a list of lists that may be changed -/
/-- at as stand lists, with dss in them -/
def Cells (K : PySem.W.Frag) (cl : Nat → Addr) (B H : Hp) : List Addr → List (List D) → Prop
  | [], [] => True
  | a :: as, ds :: dss => (∃ vs, H a = some (.lst vs) ∧ Rps K cl B ds vs) ∧ Cells K cl B H as dss
  | _, _ => False
theorem Cells.ex {B B' : Hp} (e : Ex B B') : ∀ {as : List Addr} {dss : List (List D)}, (∀ a ∈ as, ∀ o, H a = some o → H' a = some o) → Cells K cl B H as dss → Cells K cl B' H' as dss
  | [], [], _, _ => trivial
  | a :: as, ds :: dss, k, ⟨⟨vs, h1, h2⟩, h⟩ => ⟨⟨vs, k a (List.mem_cons_self ..) _ h1, Rps.ex e _ _ h2⟩, Cells.ex e (fun b hb => k b (List.mem_cons_of_mem _ hb)) h⟩
  | [], _ :: _, _, h => h.elim
  | _ :: _, [], _, h => h.elim
theorem Cells.len {B : Hp} : ∀ {as : List Addr} {dss : List (List D)}, Cells K cl B H as dss → as.length = dss.length
  | [], [], _ => rfl
  | a :: as, ds :: dss, ⟨_, h⟩ => by simp [Cells.len h]
  | [], _ :: _, h => h.elim
  | _ :: _, [], h => h.elim
theorem Cells.has {B : Hp} : ∀ {as : List Addr} {dss : List (List D)}, Cells K cl B H as dss → ∀ a ∈ as, H a ≠ none
  | [], [], _, a, h => by cases h
  | b :: as, ds :: dss, ⟨⟨vs, h1, _⟩, h⟩, a, ha => by
    rcases List.mem_cons.mp ha with e | e
    · rw [e, h1]; exact Option.some_ne_none _
    · exact Cells.has h a e
  | [], _ :: _, h, _, _ => h.elim
  | _ :: _, [], h, _, _ => h.elim
theorem Cells.rps {B B' : Hp} (e : Ex B B') : ∀ {as : List Addr} {dss : List (List D)}, (∀ a ∈ as, ∀ o, H a = some o → B' a = some o) → Cells K cl B H as dss → Rps K cl B' (dss.map .lst) (as.map .ref)
  | [], [], _, _ => Rps.nil
  | a :: as, ds :: dss, k, ⟨⟨vs, h1, h2⟩, h⟩ => by
    refine Rps.cons ?_ (Cells.rps e (fun b hb => k b (List.mem_cons_of_mem _ hb)) h)
    simp only [Rp]
    exact ⟨a, vs, rfl, k a (List.mem_cons_self ..) _ h1, Rps.ex e _ _ h2⟩
  | [], _ :: _, _, h => h.elim
  | _ :: _, [], _, h => h.elim
def addLast (d : D) : List (List D) → List (List D)
  | [] => []
  | [ds] => [ds ++ [d]]
  | ds :: e :: r => ds :: addLast d (e :: r)
theorem addLast_len (d : D) : ∀ dss : List (List D), (addLast d dss).length = dss.length
  | [] => rfl
  | [_] => rfl
  | _ :: e :: r => by simp [addLast, addLast_len d (e :: r)]
theorem Cells.last {B : Hp} : ∀ {as : List Addr} {dss : List (List D)} {ds : List D}, Cells K cl B H as dss → dss.getLast? = .some ds → ∃ a vs, as.getLast? = .some a ∧ H a = .some (.lst vs) ∧ Rps K cl B ds vs
  | [], [], ds, _, h => by cases h
  | [a], [es], ds, ⟨⟨vs, h1, h2⟩, _⟩, h => by cases h; exact ⟨a, vs, rfl, h1, h2⟩
  | a :: b :: as, es :: fs :: dss, ds, ⟨_, h1⟩, h => by
    rw [List.getLast?_cons_cons] at h ⊢
    exact Cells.last h1 h
  | [a], _ :: _ :: _, ds, ⟨_, h1⟩, h => h1.elim
  | _ :: _ :: _, [_], ds, ⟨_, h1⟩, h => h1.elim
  | [], _ :: _, _, h, _ => h.elim
  | _ :: _, [], _, h, _ => h.elim
theorem Cells.add {B B' : Hp} (e : Ex B B') {d : D} {v : V} {a : Addr} {vs : List V} (hd : Rp K cl B' d v) (ha : H a = .some (.lst vs)) (ha' : H' a = .some (.lst (vs ++ [v]))) : ∀ {as : List Addr} {dss : List (List D)}, as.Nodup → as.getLast? = .some a → (∀ b ∈ as, b ≠ a → ∀ o, H b = .some o → H' b = .some o) →
    Cells K cl B H as dss → Cells K cl B' H' as (addLast d dss)
  | [], [], _, _, _, _ => trivial
  | [b], [es], nd, hl, k, ⟨⟨vs', h1, h2⟩, _⟩ => by
    have hl : b = a := Option.some.inj hl
    subst hl
    rw [ha] at h1; cases h1
    exact ⟨⟨_, ha', Rps.append (Rps.ex e _ _ h2) (Rps.cons hd Rps.nil)⟩, trivial⟩
  | b :: c :: as, es :: fs :: dss, nd, hl, k, ⟨⟨vs', h1, h2⟩, h⟩ => by
    rw [List.getLast?_cons_cons] at hl
    have ne : b ≠ a := fun z => by
      have := List.mem_of_getLast? hl
      rw [← z] at this
      exact (List.nodup_cons.mp nd).1 this
    exact ⟨⟨vs', k b (List.mem_cons_self ..) ne _ h1, Rps.ex e _ _ h2⟩, Cells.add e hd ha ha' (List.nodup_cons.mp nd).2 hl (fun x hx => k x (List.mem_cons_of_mem _ hx)) h⟩
  | [b], _ :: _ :: _, _, _, _, ⟨_, h1⟩ => h1.elim
  | _ :: _ :: _, [_], _, _, _, ⟨_, h1⟩ => h1.elim
  | [], _ :: _, _, _, _, h => h.elim
  | _ :: _, [], _, _, _, h => h.elim
theorem Cells.push {B B' : Hp} (e : Ex B B') {a : Addr} (ha' : H' a = .some (.lst [])) : ∀ {as : List Addr} {dss : List (List D)}, (∀ b ∈ as, ∀ o, H b = .some o → H' b = .some o) → Cells K cl B H as dss → Cells K cl B' H' (as ++ [a]) (dss ++ [[]])
  | [], [], _, _ => ⟨⟨[], ha', Rps.nil⟩, trivial⟩
  | b :: as, es :: dss, k, ⟨⟨vs', h1, h2⟩, h⟩ => ⟨⟨vs', k b (List.mem_cons_self ..) _ h1, Rps.ex e _ _ h2⟩, Cells.push e ha' (fun x hx => k x (List.mem_cons_of_mem _ hx)) h⟩
  | [], _ :: _, _, h => h.elim
  | _ :: _, [], _, h => h.elim
theorem atI_last {α : Type} {xs : List α} {a : α} (h : xs.getLast? = .some a) : L2.atI xs (-1) = .some a := by
  have hne : xs ≠ [] := fun z => by rw [z] at h; cases h
  have hl : 0 < xs.length := List.length_pos_iff.mpr hne
  unfold L2.atI L2.ixN
  rw [if_neg (by decide), if_pos (by omega)]
  show xs[((-1 : Int) + xs.length).toNat]? = _
  have : ((-1 : Int) + xs.length).toNat = xs.length - 1 := by omega
  rw [this, ← List.getLast?_eq_getElem?]
  exact h
structure Nest (K : PySem.W.Frag) (cl : Nat → Addr) (O : Addr → Prop) (H : Hp) (p : Addr) (as : List Addr) (dss : List (List D)) : Prop where
  op : O p
  oa : ∀ a ∈ as, O a
  nd : (p :: as).Nodup
  top : H p = .some (.lst (as.map .ref))
  cel : Cells K cl (hide H O) H as dss
theorem Nest.ex {p : Addr} {as : List Addr} {dss : List (List D)} (n : Nest K cl O H p as dss) (e : Ex H H') : Nest K cl O H' p as dss :=
  ⟨n.op, n.oa, n.nd, e _ _ n.top, n.cel.ex (hide_of_ex e) fun a _ o h => e a o h⟩
abbrev N0 : Addr → Prop := fun _ => False
theorem ex_n0 : Ex H (hide H N0) := fun a o h => hide_some.mpr ⟨fun z => z, h⟩
theorem Nest.rp {p : Addr} {as : List Addr} {dss : List (List D)} (n : Nest K cl O H p as dss) : Rp K cl (hide H N0) (.lst (dss.map .lst)) (.ref p) := by
  simp only [Rp]
  exact ⟨p, as.map .ref, rfl, ex_n0 _ _ n.top, n.cel.rps (hide_le fun a z => z.elim) fun a _ o h => ex_n0 a o h⟩

/-! ### does_step_stand -/
def stF (m1 : ME) (t2 t4 t5 : MT) (dss : List (List D)) (dw : D) : Option (Option D) :=
  (ev m1 [.un, .val dw, .un, .un]).bind fun step =>
  (et t2 [.val (.lst (dss.map .lst)), .val dw, .val step, .un]).bind fun b2 => if b2 = true then some none else
  (dss.getLast?).bind fun ds =>
  (et t4 [.val (.lst (dss.map .lst)), .val dw, .val step, .val (.lst ds)]).bind fun b4 => if b4 = true then some none else
  (et t5 [.val (.lst (dss.map .lst)), .val dw, .val step, .val (.lst ds)]).bind fun b5 => if b5 = true then some none else
  if ds.length < sizeLine then some (some step) else none
def spStand (K : PySem.W.Frag) (cl : Nat → Addr) (F : List (List D) → D → Option (Option D)) : Sp := fun vs H Q _ => ∃ (O : Addr → Prop) (p : Addr) (as : List Addr) (dss : List (List D)) (vw : V) (dw : D) (r : Option D), vs = [.ref p, vw] ∧ (∀ a, O a → H a ≠ none) ∧ Nest K cl O H p as dss ∧ Rp K cl (hide H O) dw vw ∧ F dss dw = some r ∧
  match r with
  | none => ∀ H', Ex H H' → Q (.bl false) H'
  | some d => ∀ H' a, as.getLast? = some a → (∀ b o, H b = some o → b ≠ a → H' b = some o) → Nest K cl O H' p as (addLast d dss) → Q (.bl true) H'
section
variable {X : Cx} {a e : Expr} {apos cpos pos : Pos}
/-- x.append(e), the slots stay -/
theorem ds_appRaw {te : TE} (i : Nat) (ho : PE X a (tVar i)) (he : PE X e te) (hbase : attributeBase a "append" X.env (eval a X.env) = eval a X.env := by rfl)
    (hfew : ((backTo cpos (starEach [e] X.env)).all (fun x => !x.1) && (backToKw cpos (keywordEach [] X.env)).all (fun x => x.1.isSome) && decide ([e].length + ([] : List Keyword).length + (if ([] : List Keyword).isEmpty then 0 else 1) < 30)) = true := by rfl)
    (hline : (apos.endLine == cpos.line) = true := by rfl) (hs : starEach [e] X.env = (false, eval e X.env) :: starEach [] X.env := by rfl) (hplain : (backTo cpos (starEach [] X.env)).any (·.1) = false := by rfl) (hsw : swapsWith (.Call (.Attribute a "append" apos) [e] [] cpos) none pos.line X.env = pure false := by rfl) :
    PS X (.Expr (.Call (.Attribute a "append" apos) [e] [] cpos) pos) (fun D σ H => ∃ p vs0, σ[i]? = some (some (.ref p)) ∧ H p = some (.lst vs0) ∧ te σ H fun v H1 => ∃ q vs w, V.ref p = .ref q ∧ [v] = [w] ∧ H1 q = some (.lst vs) ∧ vs.length < sizeLine ∧ D.nx σ (upd H1 q (.lst (vs ++ [w])))) :=
  (ps_expr (pe_bm PySem.F.plainAttrs_list PySem.F.slot_list_append PySem.F.type_list_append mt_append ho (pa_cons he pa_nil hs) hbase hfew hline hs hplain) hsw).wk fun D σ H ⟨p, vs0, hp, h1, q⟩ => by
    exact ⟨.ref p, hp, .inl ⟨rfl, vs0, SqL.of h1⟩, q⟩
/-- x = y[-1] -/
def tLast (K : PySem.W.Frag) (i : Nat) : TE := tOp (rIxL K) (tVar i) (tUn (rU fun i => .int (-i)) (tC (.int 1)))
def tAppJ (i j : Nat) : TS := fun D σ H => ∃ p vs0, σ[i]? = some (some (.ref p)) ∧ H p = some (.lst vs0) ∧ tVar j σ H fun v H1 => ∃ q vs w, V.ref p = .ref q ∧ [v] = [w] ∧ H1 q = some (.lst vs) ∧ vs.length < sizeLine ∧ D.nx σ (upd H1 q (.lst (vs ++ [w])))
def tIfF (K : PySem.W.Frag) (cl : Nat → Addr) (m : MT) : TS := tIfS (wT K cl Z0 m) (tRet (tC (.bl false))) tNext
def t_stand (K : PySem.W.Frag) (cl : Nat → Addr) (m1 : ME) (t2 t4 t5 : MT) : TS :=
  tSeq (tAsg (wE K cl Z0 m1) (gName 2)) (tSeq (tIfF K cl t2) (tSeq (tAsg (tLast K 0) (gName 3)) (tSeq (tIfF K cl t4) (tSeq (tIfF K cl t5) (tSeq (tAppJ 3 2) (tRet (tC (.bl true))))))))
theorem tIfF_of {m : MT} {u : TS} {D : Ends} (h : wT K cl Z0 m σ H fun b H1 => if b = true then D.rt (.bl false) H1 else u D σ H1) : tSeq (tIfF K cl m) u D σ H := h
theorem pure_stand {m1 : ME} {t2 t4 t5 : MT} (vs : List V) (H : Hp) (Q : VK) (E : XK) (N : List Str) (hN : N.length = 4) (h : spStand K cl (stF m1 t2 t4 t5) vs H Q E) : t_stand K cl m1 t2 t4 t5 { nx := fun _ H' => Q .non H', rt := Q } (L2.start N vs) H := by
  obtain ⟨O, p, as, dss, vw, dw, r, rfl, dom, n, hw, hF, hr⟩ := h
  have hσ : L2.start N [.ref p, vw] = [some (.ref p), some vw, none, none] := by unfold L2.start; rw [hN]; rfl
  rw [hσ]
  unfold stF at hF
  obtain ⟨step, e1, hF⟩ := Option.bind_eq_some_iff.mp hF
  refine wE_pl (ρ := [.un, .val dw, .un, .un]) (O := O) rfl (rel_of rfl rfl (fun i d hi => ?_) dom) e1 fun v1 H1 x1 r1 => ?_
  · match i, hi with
    | 1, hi => cases hi; exact ⟨vw, rfl, hw⟩
    | 0, hi => cases hi
    | 2, hi => cases hi
    | 3, hi => cases hi
    | _ + 4, hi => cases hi
  refine tIfF_of (σ := [some (.ref p), some vw, some v1, none]) ?_
  obtain ⟨b2, e2, hF⟩ := Option.bind_eq_some_iff.mp hF
  have n1 := n.ex x1
  have w1 : Rp K cl (hide H1 N0) dw vw := Rp.ex (Ex.trans (hide_of_ex x1) (hide_le fun a z => z.elim)) _ _ hw
  have s1 : Rp K cl (hide H1 N0) step v1 := Rp.ex (hide_le fun a z => z.elim) _ _ r1
  refine wT_pl (ρ := [.val (.lst (dss.map .lst)), .val dw, .val step, .un]) (O := N0) rfl (rel_of rfl rfl (fun i d hi => ?_) (fun a z => z.elim)) e2 fun H2 x2 => ?_
  · match i, hi with
    | 0, hi => cases hi; exact ⟨_, rfl, n1.rp⟩
    | 1, hi => cases hi; exact ⟨_, rfl, w1⟩
    | 2, hi => cases hi; exact ⟨_, rfl, s1⟩
    | 3, hi => cases hi
    | _ + 4, hi => cases hi
  have back : ∀ {Ha Hb : Hp}, Ex Ha Hb → Nest K cl O Ha p as dss → Nest K cl O Hb p as dss := fun x n => n.ex x
  have falseQ : ∀ {Ha : Hp}, Ex H Ha → r = none → Q (.bl false) Ha := fun x e => by subst e; exact hr _ x
  split at hF
  · rename_i hb
    rw [if_pos hb]
    cases hF
    exact hr _ (Ex.trans x1 x2)
  rename_i hb
  rw [if_neg hb]
  obtain ⟨ds, e3, hF⟩ := Option.bind_eq_some_iff.mp hF
  have n2 := n1.ex x2
  obtain ⟨a, vs, ha, hv, hvs⟩ := n2.cel.last e3
  refine ⟨.ref p, rfl, 1, rfl, p, as.map .ref, -1, .ref a, rfl, rfl, SqL.of n2.top, atI_last (by rw [List.getLast?_map, ha]; rfl), ?_⟩
  refine tIfF_of (σ := [some (.ref p), some vw, some v1, some (.ref a)]) ?_
  obtain ⟨b4, e4, hF⟩ := Option.bind_eq_some_iff.mp hF
  have rel4 : ∀ {Ha : Hp}, Ex H2 Ha → Rel K cl N0 [.val (.lst (dss.map .lst)), .val dw, .val step, .val (.lst ds)] [some (.ref p), some vw, some v1, some (.ref a)] Ha := fun {Ha} x => rel_of rfl rfl (fun i d hi => by
    match i, hi with
    | 0, hi => cases hi; exact ⟨_, rfl, (n2.ex x).rp⟩
    | 1, hi => cases hi; exact ⟨_, rfl, Rp.ex (hide_of_ex (Ex.trans x2 x)) _ _ w1⟩
    | 2, hi => cases hi; exact ⟨_, rfl, Rp.ex (hide_of_ex (Ex.trans x2 x)) _ _ s1⟩
    | 3, hi =>
      cases hi
      refine ⟨_, rfl, ?_⟩
      simp only [Rp]
      exact ⟨a, vs, rfl, ex_n0 _ _ (x _ _ hv), Rps.ex (Ex.trans (hide_of_ex x) (hide_le fun a z => z.elim)) _ _ hvs⟩
    | _ + 4, hi => cases hi) (fun a z => z.elim)
  refine wT_pl rfl (rel4 (Ex.refl _)) e4 fun H3 x3 => ?_
  split at hF
  · rename_i hb
    rw [if_pos hb]
    cases hF
    exact hr _ (Ex.trans (Ex.trans x1 x2) x3)
  rename_i hb
  rw [if_neg hb]
  obtain ⟨b5, e5, hF⟩ := Option.bind_eq_some_iff.mp hF
  refine tIfF_of (σ := [some (.ref p), some vw, some v1, some (.ref a)]) ?_
  refine wT_pl rfl (rel4 x3) e5 fun H4 x4 => ?_
  split at hF
  · rename_i hb
    rw [if_pos hb]
    cases hF
    exact hr _ (Ex.trans (Ex.trans (Ex.trans x1 x2) x3) x4)
  rename_i hb
  rw [if_neg hb]
  split at hF
  case isFalse => cases hF
  rename_i hz
  cases hF
  have x24 := Ex.trans x3 x4
  have n4 := n2.ex x24
  have hv4 := x24 _ _ hv
  have am : a ∈ as := List.mem_of_getLast? ha
  have pa : p ≠ a := fun z => (List.nodup_cons.mp n.nd).1 (by rw [z]; exact am)
  refine ⟨a, vs, rfl, hv4, v1, rfl, a, vs, v1, rfl, rfl, hv4, by rw [← hvs.length]; exact hz, ?_⟩
  refine hr _ a ha (fun b o h1 h2 => ?_) ⟨n.op, n.oa, n.nd, by rw [upd_ne pa]; exact n4.top, ?_⟩
  · rw [upd_ne h2]
    exact Ex.trans (Ex.trans x1 x2) x24 _ _ h1
  · have hx : Ex (hide H4 O) (hide (upd H4 a (.lst (vs ++ [v1]))) O) := hide_mono fun b o h1 h2 => ⟨h1, by rw [upd_ne (fun z => h1 (by rw [z]; exact n.oa a am))]; exact h2⟩
    exact n4.cel.add hx (Rp.ex (Ex.trans (hide_of_ex (Ex.trans x2 x24)) hx) _ _ r1) hv4 upd_same (List.nodup_cons.mp n.nd).2 ha (fun b hb h1 o h2 => by rw [upd_ne h1]; exact h2)
end
end
end DF
namespace DF
open PySem PySem.Spec L2 Evl
section
variable {K : PySem.W.Frag} {cl : Nat → Addr} {O : Addr → Prop} {ρ ρ' : Env} {σ σ' : L2.St} {H H' H1 H2 : Hp}

def OkStand (P : Program) (w : World) (K : PySem.W.Frag) (cl : Nat → Addr) (mg : Str → Option Value) (base : Heap) (k : Nat) (x : Str) (ps : List Str) (F : List (List D) → D → Option (Option D)) : Prop :=
  ∃ f fd, FnOk P w K mg base CX0 k f fd ps (spStand K cl F) ∧ mg x = some (.ref f) ∧ PySem.W.keepIn K (.ref f) = true ∧ Binds K fd ps []
theorem Def.fun {K : PySem.W.Frag} {mg : Str → Option Value} {x : Str} {st : Stmt} (F : Def K mg x st) : ∃ f fd, Fun K x x st f fd ∧ mg x = some (.ref f) ∧ FunD K x x (defArgs st) (defBody st) (defScope st) [] [] f fd := by
  obtain ⟨f, fd, F, g⟩ := F
  refine ⟨f, fd, ?_, g, F⟩
  obtain ⟨oc, od, dV, kV, doc, pm, an, cdv, ct, osl, e, lk, hcd, hD, _⟩ := F.ex
  have hd : dV = .none := by
    rcases hD with ⟨_, e⟩ | ⟨e, _⟩
    · exact e
    · exact absurd rfl e
  subst hd
  exact ⟨⟨oc, od, kV, doc, pm, an, cdv, ct, osl, e, lk, hcd⟩, F.kp⟩
theorem ok_stand {P : Program} {w : World} {mg : Str → Option Value} {base : Heap} {x : Str} {st : Stmt} {N ps : List Str} {k : Nat} {m1 : ME} {t2 t4 t5 : MT} (F : Def K mg x st) (S : FnScope N ps (defScope st)) (hN : N.length = 4) (h2 : ps.length = 2)
    (hb : ∀ (kV doc pm : Value) (an : Option Addr) (cdv ct : Value) (us : List Value), us.length = ps.length → bindArgs (PySem.W.fnOf x x (defArgs st) (defBody st) (defScope st) .none kV doc pm an cdv ct) ⟨us, []⟩ = pure (ps.zip us))
    (hbody : ∀ (f : Addr) (cdv : Value) (A : Around) (outer : List PySem.Env) (s : Shared) (H : Hp) (E : XK), Room k (A.deeper (PyProof.Rows.envOfC x (defScope st) s.heap.objs.size f cdv)) →
      PSs (cxOf CX0 P w K mg base N x (defScope st) f cdv A outer s H E).nox (defBody st) (t_stand K cl m1 t2 t4 t5)) : OkStand P w K cl mg base (k + 1) x ps (stF m1 t2 t4 t5) := by
  obtain ⟨f, fd, F', g, FD⟩ := F.fun
  refine ⟨f, fd, fun_ok F' S (fun vs H Q E h => ?_) fun cdv A outer s H vs Q E hr h => ⟨_, hbody f cdv A outer s H E hr, pure_stand vs H Q E N hN h⟩, g, FD.kp, FD.bindsN hb⟩
  obtain ⟨_, _, _, _, _, _, _, rfl, _⟩ := h
  rw [h2]; rfl

/-! ### regions_in -/
def regGo (nx : List (List D) → D → Option Bool) (st : List (List D) → D → Option (Option D)) : List D → List (List D) → List Int → Option (Int ⊕ (List (List D) × List Int))
  | [], dss, ends => some (.inr (dss, ends))
  | .tup [.int at_, w] :: r, dss, ends => (nx dss w).bind fun b => if b = true then (if dss.length < sizeLine ∧ ends.length < sizeLine then regGo nx st r (dss ++ [[]]) (ends ++ [at_ + 2]) else none)
    else (st dss w).bind fun o => match o with
      | none => some (.inl (at_ + 2))
      | some d => regGo nx st r (addLast d dss) ends
  | _, _, _ => none
theorem regGo_cons {nx : List (List D) → D → Option Bool} {st : List (List D) → D → Option (Option D)} {d : D} {r : List D} {dss : List (List D)} {ends : List Int} {res : Int ⊕ (List (List D) × List Int)} (h : regGo nx st (d :: r) dss ends = some res) :
    ∃ at_ w, d = .tup [.int at_, w] ∧ ((nx dss w).bind fun b => if b = true then (if dss.length < sizeLine ∧ ends.length < sizeLine then regGo nx st r (dss ++ [[]]) (ends ++ [at_ + 2]) else none)
    else (st dss w).bind fun o => match o with
      | none => some (.inl (at_ + 2))
      | some d => regGo nx st r (addLast d dss) ends) = some res := by
  unfold regGo at h
  split at h
  · rename_i q; cases q
  · rename_i q; cases q; exact ⟨_, _, rfl, h⟩
  · cases h
/-- the wish of the loop's body; slots: text 0, rows 1, found 2, ends 3, at 4, words 5 -/
def tAppE (K : PySem.W.Frag) (cl : Nat → Addr) (i : Nat) (m : ME) : TS := fun D σ H => ∃ p vs0, σ[i]? = some (some (.ref p)) ∧ H p = some (.lst vs0) ∧ wE K cl Z0 m σ H fun v H1 => ∃ q vs w, V.ref p = .ref q ∧ [v] = [w] ∧ H1 q = some (.lst vs) ∧ vs.length < sizeLine ∧ D.nx σ (upd H1 q (.lst (vs ++ [w])))
def tAppN (i : Nat) : TS := fun D σ H => ∃ p vs0, σ[i]? = some (some (.ref p)) ∧ H p = some (.lst vs0) ∧ tLst tNil σ H fun v H1 => ∃ q vs w, V.ref p = .ref q ∧ [v] = [w] ∧ H1 q = some (.lst vs) ∧ vs.length < sizeLine ∧ D.nx σ (upd H1 q (.lst (vs ++ [w])))
def t_regBody (K : PySem.W.Frag) (cl : Nat → Addr) (tn : MT) (st : List (List D) → D → Option (Option D)) (ma : ME) (mr : ME) : TS :=
  tIfS (wT K cl Z0 tn) (tSeq (tAppE K cl 3 ma) (tAppN 2)) (tIfS (tNot (tB (tCall (spStand K cl st) [] E0 (tCons (tVar 2) (tCons (tVar 5) tNil))))) (tRet (wE K cl Z0 mr)) tNext)
def t_reg (K : PySem.W.Frag) (cl : Nat → Addr) (m0 : ME) (m1 : MT) (m2 : ME) (mi : MI) (g : MG) (tn : MT) (st : List (List D) → D → Option (Option D)) (ma mr : ME) (mt : MS) : TS :=
  tSeq (tPar3 1 2 3 (tCons (wE K cl Z0 m0) (tCons (tLst tNil) (tCons (tLst tNil) tNil)))) (tSeq (tIfS (wT K cl Z0 m1) (tRet (wE K cl Z0 m2)) tNext) (tSeq (tFor (wI K cl Z0 mi) (wG K cl Z0 [4, 5] g) (t_regBody K cl tn st ma mr)) (wS K cl Z0 mt)))


theorem tIfS_of {m : MT} {t u : TS} {D : Ends} (h : wT K cl Z0 m σ H fun b H1 => if b = true then t D σ H1 else u D σ H1) : tIfS (wT K cl Z0 m) t u D σ H := h
theorem tSeqIf_of {m : MT} {t u : TS} {D : Ends} (h : wT K cl Z0 m σ H fun b H1 => if b = true then t { D with nx := u D } σ H1 else u D σ H1) : tSeq (tIfS (wT K cl Z0 m) t tNext) u D σ H := h
abbrev u10 : Env := [.un, .un, .un, .un, .un, .un, .un, .un, .un, .un]
structure RegM where
  m0 : ME
  m1 : MT
  m2 : ME
  mi : MI
  g : MG
  tn : MT
  st : List (List D) → D → Option (Option D)
  ma : ME
  mr : ME
  mt : MS
def RegM.nx (M : RegM) (dss : List (List D)) (w : D) : Option Bool := et M.tn [.un, .un, .val (.lst (dss.map .lst)), .un, .un, .val w, .un, .un, .un, .un]
def RegM.tail (M : RegM) (rows : D) (dss : List (List D)) (ends : List Int) : Option D := match okR (M.mt [.un, .val rows, .val (.lst (dss.map .lst)), .own (.lst (ends.map .int)), .un, .un, .un, .un, .un, .un]) with
  | some (.ret d _) => some d
  | _ => none
def RegM.ans (M : RegM) (text : D) : Option D :=
  (ev M.m0 [.val text, .un, .un, .un, .un, .un, .un, .un, .un, .un]).bind fun rows =>
  (et M.m1 [.un, .val rows, .un, .un, .un, .un, .un, .un, .un, .un]).bind fun b1 => if b1 = true then ev M.m2 u10 else
  ((okR (M.mi [.un, .val rows, .un, .un, .un, .un, .un, .un, .un, .un])).map (·.1)).bind fun items =>
  (regGo M.nx M.st items [] []).bind fun r => match r with
    | .inl n => some (.tup [.non, .int n])
    | .inr (dss, ends) => M.tail rows dss ends
def RegM.fn (M : RegM) : ME := fun ss => match ss with
  | [.val d] => (lft (M.ans d)).bind fun r => .ok (r, ss)
  | _ => .bad
structure RegM.Ok (M : RegM) : Prop where
  ma : ∀ a w, ev M.ma [.un, .un, .un, .un, .val (.int a), .val w, .un, .un, .un, .un] = some (.int (a + 2))
  mr : ∀ a w, ev M.mr [.un, .un, .un, .un, .val (.int a), .val w, .un, .un, .un, .un] = some (.tup [.non, .int (a + 2)])
  g : ∀ a w, M.g (.tup [a, w]) u10 = .ok [.un, .un, .un, .un, .val a, .val w, .un, .un, .un, .un]
theorem vis_pl (hp : plainE ρ = true) : Ex (hide H O) (vis O ρ σ H) := hide_le fun a z => by
  rcases z with z | ⟨j, z, _⟩
  · exact z
  · rw [plainE_kd hp j] at z; cases z
theorem get_set_ne {α : Type} {l : List α} {i j : Nat} {a : α} (h : i ≠ j) : (l.set i a)[j]? = l[j]? := List.getElem?_set_ne h
theorem pure_reg {M : RegM} (ok : M.Ok) (vs : List V) (H : Hp) (Q : VK) (E : XK) (N : List Str) (hN : N.length = 10) (h : spF K cl 1 M.fn vs H Q E) :
    t_reg K cl M.m0 M.m1 M.m2 M.mi M.g M.tn M.st M.ma M.mr M.mt { nx := fun _ H' => Q .non H', rt := Q } (L2.start N vs) H := by
  obtain ⟨hl, ss, O, r, q⟩ := h
  unfold RegM.fn at q
  split at q
  case h_2 => exact q.elim
  rename_i text
  obtain ⟨ans, ha, q⟩ := Gd.lft q
  obtain ⟨v0, rfl⟩ : ∃ v0, vs = [v0] := by
    match vs, hl with
    | [v], _ => exact ⟨v, rfl⟩
  have ht : Rp K cl (hide H O) text v0 := by
    obtain ⟨v, e1, e2⟩ := r.at_ 0 _ rfl
    cases e1
    exact Rp.ex (hide_le fun a z => .inl z) _ _ e2
  have fin : ∀ v H', Ex H H' → Rp K cl (hide H' O) ans v → Q v H' := fun v H' x w =>
    q v H' ⟨Po.of_ex r x, fun _ => rfl, Rp.ex (vis_pl rfl) _ _ w⟩
  have hσ : L2.start N [v0] = [some v0, none, none, none, none, none, none, none, none, none] := by unfold L2.start; rw [hN]; rfl
  rw [hσ]
  clear hσ q
  unfold RegM.ans at ha
  obtain ⟨rows, e0, ha⟩ := Option.bind_eq_some_iff.mp ha
  obtain ⟨b1, e1, ha⟩ := Option.bind_eq_some_iff.mp ha
  refine wE_pl (ρ := [.val text, .un, .un, .un, .un, .un, .un, .un, .un, .un]) (O := O) rfl (rel_of rfl rfl (fun i d hi => ?_) r.dom) e0 fun vr H1 x1 r1 => ⟨Nat.zero_le _, fun p hp => ⟨Nat.zero_le _, fun u hu => ⟨vr, .ref p, .ref u, rfl, ?_⟩⟩⟩
  · match i, hi with
    | 0, hi => cases hi; exact ⟨_, rfl, ht⟩
    | 1, hi => cases hi
    | 2, hi => cases hi
    | 3, hi => cases hi
    | 4, hi => cases hi
    | 5, hi => cases hi
    | 6, hi => cases hi
    | 7, hi => cases hi
    | 8, hi => cases hi
    | 9, hi => cases hi
    | _ + 10, hi => cases hi
  have hup : u ≠ p := fun z => by rw [z, upd_same] at hu; cases hu
  have hu1 : H1 u = none := by rw [upd_ne hup] at hu; exact hu
  generalize hH3 : upd (upd H1 p (.lst [])) u (.lst []) = H3
  have g3 : ∀ a o, H1 a = some o → H3 a = some o := fun a o h => by
    have n1 : a ≠ p := fun z => by rw [z, hp] at h; cases h
    have n2 : a ≠ u := fun z => by rw [z, hu1] at h; cases h
    rw [← hH3, upd_ne n2, upd_ne n1]; exact h
  have h3p : H3 p = some (.lst []) := by rw [← hH3, upd_ne (Ne.symm hup), upd_same]
  have h3u : H3 u = some (.lst []) := by rw [← hH3, upd_same]
  let O1 : Addr → Prop := fun a => O a ∨ a = p ∨ a = u
  have nO : ∀ a, O a → a ≠ p ∧ a ≠ u := fun a z => by
    cases e : H a with
    | none => exact absurd e (r.dom a z)
    | some o =>
      have h1 := x1 _ _ e
      exact ⟨(fun w => by rw [w, hp] at h1; cases h1), (fun w => by rw [w, hu1] at h1; cases h1)⟩
  have ex13 : Ex (hide H1 O) (hide H3 O1) := hide_mono fun a o h e => ⟨(fun z => by
    rcases z with z | z | z
    · exact h z
    · rw [z, hp] at e; cases e
    · rw [z, hu1] at e; cases e), g3 a o e⟩
  have dom3 : ∀ {Ha : Hp}, Ex H3 Ha → ∀ a, O1 a → Ha a ≠ none := fun {Ha} x a z => by
    rcases z with z | z | z
    · cases e : H a with
      | none => exact absurd e (r.dom a z)
      | some o => rw [x _ _ (g3 _ _ (x1 _ _ e))]; exact Option.some_ne_none _
    · rw [z, x _ _ h3p]; exact Option.some_ne_none _
    · rw [z, x _ _ h3u]; exact Option.some_ne_none _
  let σ1 : L2.St := [some v0, some vr, some (.ref p), some (.ref u), none, none, none, none, none, none]
  have rel1 : ∀ {Ha : Hp}, Ex H3 Ha → Rel K cl O1 [.un, .val rows, .un, .un, .un, .un, .un, .un, .un, .un] σ1 Ha := fun {Ha} x => rel_of rfl rfl (fun i d hi => by
    match i, hi with
    | 0, hi => cases hi
    | 1, hi => cases hi; exact ⟨_, rfl, Rp.ex (Ex.trans ex13 (hide_of_ex x)) _ _ r1⟩
    | 2, hi => cases hi
    | 3, hi => cases hi
    | 4, hi => cases hi
    | 5, hi => cases hi
    | 6, hi => cases hi
    | 7, hi => cases hi
    | 8, hi => cases hi
    | 9, hi => cases hi
    | _ + 10, hi => cases hi) (dom3 x)
  have exH : ∀ {Ha : Hp}, (∀ a o, H3 a = some o → a ≠ p → a ≠ u → Ha a = some o) → Ex H Ha := fun {Ha} x a o h => by
    have h1 := x1 _ _ h
    exact x a o (g3 a o h1) (fun z => by rw [z, hp] at h1; cases h1) (fun z => by rw [z, hu1] at h1; cases h1)
  refine tSeqIf_of (σ := σ1) ?_
  refine wT_pl rfl (rel1 (Ex.refl _)) e1 fun H4 x4 => ?_
  split at ha
  · rename_i hb
    rw [if_pos hb]
    refine wE_pl (ρ := u10) (O := O1) rfl (rel_of rfl rfl (fun i d hi => ?_) (dom3 x4)) ha fun v H' x' r' => fin v H' (exH fun a o h _ _ => x' _ _ (x4 _ _ h)) (Rp.ex (hide_le fun a z => .inl z) _ _ r')
    match i, hi with
    | 0, hi => cases hi
    | 1, hi => cases hi
    | 2, hi => cases hi
    | 3, hi => cases hi
    | 4, hi => cases hi
    | 5, hi => cases hi
    | 6, hi => cases hi
    | 7, hi => cases hi
    | 8, hi => cases hi
    | 9, hi => cases hi
    | _ + 10, hi => cases hi
  rename_i hb
  rw [if_neg hb]
  obtain ⟨items, e2, ha⟩ := Option.bind_eq_some_iff.mp ha
  obtain ⟨res, e3, ha⟩ := Option.bind_eq_some_iff.mp ha
  obtain ⟨⟨items', ρ'⟩, e2a, e2b⟩ := Option.map_eq_some_iff.mp e2
  simp only at e2b
  subst e2b
  refine ⟨_, O1, rel1 x4, ?_⟩
  rw [okR_some e2a]
  intro J H5 p5 wk
  have x5 : Ex H4 H5 := fun a o h => p5.po.fr a o h (plainE_mu rfl σ1 a)
  have x35 : Ex H3 H5 := Ex.trans x4 x5
  have hp5 := x35 _ _ h3p
  have hu5 := x35 _ _ h3u
  let P : List Addr → Addr → Prop := fun as a => O1 a ∨ a ∈ as
  have wk' : Wk K cl (hide H5 O1) J items' := by
    have e : Ex (vis O1 ρ' σ1 H5) (hide H5 O1) := hide_le fun a z => .inl z
    exact ⟨fun P H hP ex i d hd => wk.step P H hP (Ex.trans e ex) i d hd, fun P H ex => wk.stop P H (Ex.trans e ex)⟩
  have r5 : Rp K cl (hide H5 O1) rows vr := Rp.ex (Ex.trans ex13 (hide_of_ex x35)) _ _ r1
  let W : Nat → Nat → L2.St → Hp → Prop := fun i m σ' H' => ∃ (as : List Addr) (dss : List (List D)) (ends : List Int), σ'.length = 10 ∧ σ'[1]? = some (some vr) ∧ σ'[2]? = some (some (.ref p)) ∧ σ'[3]? = some (some (.ref u)) ∧
    i ≤ items'.length ∧ m = items'.length - i ∧ (∀ a o, H5 a = some o → a ≠ p → a ≠ u → H' a = some o) ∧ (∀ a ∈ as, H5 a = none) ∧ as.Nodup ∧ H' p = some (.lst (as.map .ref)) ∧ H' u = some (.lst (ends.map .int)) ∧ Cells K cl (hide H' (P as)) H' as dss ∧
    regGo M.nx M.st (items'.drop i) dss ends = some res
  refine ⟨W, ⟨_, [], [], [], rfl, rfl, rfl, rfl, Nat.zero_le _, rfl, fun a o h _ _ => h, (fun a h => by cases h), List.nodup_nil, hp5, hu5, trivial, e3⟩, fun i m σ' H' ⟨as, dss, ends, l10, s1, s2, s3, hi, hm, k5, n5, nd, hp', hu', cel, go⟩ => ?_⟩
  have pas : p ∉ as := fun z => by have := n5 p z; rw [hp5] at this; cases this
  have uas : u ∉ as := fun z => by have := n5 u z; rw [hu5] at this; cases this
  have exV : ∀ {Ha : Hp}, (∀ a o, H5 a = some o → a ≠ p → a ≠ u → Ha a = some o) → Ex (hide H5 O1) (hide Ha (P as)) := fun {Ha} k => hide_mono fun a o h e => ⟨(fun z => by
    rcases z with z | z
    · exact h z
    · rw [n5 a z] at e; cases e), k a o e (fun z => h (.inr (.inl z))) (fun z => h (.inr (.inr z)))⟩
  have domP : ∀ {Ha : Hp}, Ex H' Ha → ∀ a, P as a → Ha a ≠ none := fun {Ha} x a z => by
    rcases z with (z | z | z) | z
    · cases e : H a with
      | none => exact absurd e (r.dom a z)
      | some o =>
        obtain ⟨z1, z2⟩ := nO a z
        rw [x _ _ (k5 a o (x35 _ _ (g3 _ _ (x1 _ _ e))) z1 z2)]; exact Option.some_ne_none _
    · rw [z, x _ _ hp']; exact Option.some_ne_none _
    · rw [z, x _ _ hu']; exact Option.some_ne_none _
    · cases e : H' a with
      | none => exact absurd e (cel.has a z)
      | some o => rw [x _ _ e]; exact Option.some_ne_none _
  have exHH : ∀ {Ha : Hp}, (∀ a o, H5 a = some o → a ≠ p → a ≠ u → Ha a = some o) → Ex H Ha := fun {Ha} x => exH fun a o h h1 h2 => x a o (x35 _ _ h) h1 h2
  have nest : Nest K cl (P as) H' p as dss := ⟨.inl (.inr (.inl rfl)), fun a z => .inr z, List.nodup_cons.mpr ⟨pas, nd⟩, hp', cel⟩
  by_cases hil : i < items'.length
  · refine .inr ?_
    have hd : items'[i]? = some items'[i] := List.getElem?_eq_getElem hil
    obtain ⟨gg, yl⟩ := wk'.step (P as) H' (domP (Ex.refl _)) (exV k5) i _ hd
    refine ⟨gg, fun σ' H' => W (i + 1) (items'.length - (i + 1)) σ' H', fun σ2 H2 w => ⟨_, by omega, w⟩, fun x H6 hy => ?_⟩
    obtain ⟨x6, v6⟩ := yl x H6 hy
    rw [List.drop_eq_getElem_cons hil] at go
    revert v6 go
    generalize items'[i] = dd
    intro go v6
    obtain ⟨at_, w, rfl, go⟩ := regGo_cons go
    refine ⟨u10, P as, _, rel_of (by rw [l10]; rfl) rfl (fun i d hi => ?_) (domP x6), Rp.ex (vis_pl rfl) _ _ v6, ?_⟩
    · match i, hi with
      | 0, hi => cases hi
      | 1, hi => cases hi
      | 2, hi => cases hi
      | 3, hi => cases hi
      | 4, hi => cases hi
      | 5, hi => cases hi
      | 6, hi => cases hi
      | 7, hi => cases hi
      | 8, hi => cases hi
      | 9, hi => cases hi
      | _ + 10, hi => cases hi
    rw [ok.g]
    intro σ2 p6 ⟨⟨so1, so2⟩, _⟩
    have l10' : σ2.length = 10 := by rw [so1, l10]
    have t1 : σ2[1]? = some (some vr) := by rw [so2 1 (by decide)]; exact s1
    have t2 : σ2[2]? = some (some (.ref p)) := by rw [so2 2 (by decide)]; exact s2
    have t3 : σ2[3]? = some (some (.ref u)) := by rw [so2 3 (by decide)]; exact s3
    obtain ⟨v4, t4, q4⟩ := p6.rel.at_ 4 _ rfl
    simp only [Rp] at q4
    subst q4
    obtain ⟨vw, t5, q5⟩ := p6.rel.at_ 5 _ rfl
    have q5 : Rp K cl (hide H6 (P as)) w vw := Rp.ex (hide_le fun a z => .inl z) _ _ q5
    obtain ⟨b, eb, go⟩ := Option.bind_eq_some_iff.mp go
    have n6 := nest.ex x6
    refine tIfS_of ?_
    refine wT_pl (ρ := [.un, .un, .val (.lst (dss.map .lst)), .un, .un, .val w, .un, .un, .un, .un]) (O := N0) rfl (rel_of (by rw [l10']; rfl) rfl (fun i d hi => ?_) (fun a z => z.elim)) eb fun H7 x7 => ?_
    · match i, hi with
      | 0, hi => cases hi
      | 1, hi => cases hi
      | 2, hi => cases hi; exact ⟨_, t2, n6.rp⟩
      | 3, hi => cases hi
      | 4, hi => cases hi
      | 5, hi => cases hi; exact ⟨_, t5, Rp.ex (hide_le fun a z => z.elim) _ _ q5⟩
      | 6, hi => cases hi
      | 7, hi => cases hi
      | 8, hi => cases hi
      | 9, hi => cases hi
      | _ + 10, hi => cases hi
    have n7 := n6.ex x7
    have x67 := Ex.trans x6 x7
    have k7 : ∀ a o, H5 a = some o → a ≠ p → a ≠ u → H7 a = some o := fun a o h h1 h2 => x67 _ _ (k5 a o h h1 h2)
    have relA : ∀ {Ha : Hp}, Ex H7 Ha → Rel K cl (P as) [.un, .un, .un, .un, .val (.int at_), .val w, .un, .un, .un, .un] σ2 Ha := fun {Ha} x => rel_of (by rw [l10']; rfl) rfl (fun i d hi => by
      match i, hi with
      | 0, hi => cases hi
      | 1, hi => cases hi
      | 2, hi => cases hi
      | 3, hi => cases hi
      | 4, hi => cases hi; exact ⟨_, t4, by simp only [Rp]⟩
      | 5, hi => cases hi; exact ⟨_, t5, Rp.ex (hide_of_ex (Ex.trans x7 x)) _ _ q5⟩
      | 6, hi => cases hi
      | 7, hi => cases hi
      | 8, hi => cases hi
      | 9, hi => cases hi
      | _ + 10, hi => cases hi) (domP (Ex.trans x67 x))
    split at go
    · rename_i hbt
      rw [if_pos hbt]
      split at go
      case isFalse => cases go
      rename_i hz
      have hu7 := x67 _ _ hu'
      refine ⟨u, ends.map .int, t3, hu7, wE_pl rfl (relA (Ex.refl _)) (ok.ma at_ w) fun v8 H8 x8 r8 => ?_⟩
      simp only [Rp] at r8
      subst r8
      refine ⟨u, ends.map .int, _, rfl, rfl, x8 _ _ hu7, by rw [List.length_map]; exact hz.2, ?_⟩
      have hp8 : upd H8 u (.lst (ends.map .int ++ [.int (at_ + 2)])) p = some (.lst (as.map .ref)) := by rw [upd_ne (Ne.symm hup)]; exact x8 _ _ n7.top
      refine ⟨p, as.map .ref, t2, hp8, Nat.zero_le _, fun a ha8 => ⟨p, as.map .ref, .ref a, rfl, rfl, ?_, by rw [List.length_map, cel.len]; exact hz.1, ?_⟩⟩
      · rw [upd_ne (fun z => by rw [← z, hp8] at ha8; cases ha8)]; exact hp8
      have au : a ≠ u := fun z => by rw [z, upd_same] at ha8; cases ha8
      have ap : a ≠ p := fun z => by rw [z, hp8] at ha8; cases ha8
      have ha8' : H8 a = none := by rw [upd_ne au] at ha8; exact ha8
      have a5 : H5 a = none := by
        cases e : H5 a with
        | none => rfl
        | some o => rw [x8 _ _ (k7 a o e ap au)] at ha8'; cases ha8'
      have aas : a ∉ as := fun z => by
        have := cel.has a z
        cases e : H' a with
        | none => exact this e
        | some o => rw [x8 _ _ (x67 _ _ e)] at ha8'; cases ha8'
      generalize hH9 : upd (upd (upd H8 u (.lst (ends.map .int ++ [.int (at_ + 2)]))) a (.lst [])) p (.lst (as.map .ref ++ [.ref a])) = H9
      have g9 : ∀ b o, H8 b = some o → b ≠ u → b ≠ p → H9 b = some o := fun b o h h1 h2 => by
        have h3 : b ≠ a := fun z => by rw [z, ha8'] at h; cases h
        rw [← hH9, upd_ne h2, upd_ne h3, upd_ne h1]; exact h
      have cel8 := cel.ex (hide_of_ex (Ex.trans x67 x8)) fun b _ o h => (Ex.trans x67 x8) b o h
      refine ⟨as ++ [a], dss ++ [[]], ends ++ [at_ + 2], l10', t1, t2, t3, hil, rfl, fun b o h h1 h2 => g9 b o (x8 _ _ (k7 b o h h1 h2)) h2 h1, fun b hb => ?_, ?_, by rw [← hH9, upd_same, List.map_append]; rfl, by rw [← hH9, upd_ne hup, upd_ne (Ne.symm au), upd_same, List.map_append]; rfl, ?_, go⟩
      · rcases List.mem_append.mp hb with h | h
        · exact n5 b h
        · rw [List.mem_singleton.mp h]; exact a5
      · rw [List.nodup_append]
        exact ⟨nd, by simp, fun b hb c hc z => aas (by rw [List.mem_singleton.mp hc] at z; rw [← z]; exact hb)⟩
      · have hx : Ex (hide H8 (P as)) (hide H9 (P (as ++ [a]))) := hide_mono fun b o h e => ⟨(fun z => by
          rcases z with z | z
          · exact h (.inl z)
          · rcases List.mem_append.mp z with z | z
            · exact h (.inr z)
            · rw [List.mem_singleton.mp z, ha8'] at e; cases e), g9 b o e (fun z => h (.inl (.inr (.inr z)))) (fun z => h (.inl (.inr (.inl z))))⟩
        exact cel8.push hx (by rw [← hH9, upd_ne ap, upd_same]) fun b hb o h => g9 b o h (fun z => uas (by rw [← z]; exact hb)) (fun z => pas (by rw [← z]; exact hb))
    · rename_i hbf
      rw [if_neg hbf]
      obtain ⟨o, eo, go⟩ := Option.bind_eq_some_iff.mp go
      refine ⟨.ref p, t2, vw, t5, P as, p, as, dss, vw, w, o, rfl, domP x67, n7, Rp.ex (hide_of_ex x7) _ _ q5, eo, ?_⟩
      cases o with
      | none =>
        cases go
        intro H8 x8
        refine ⟨false, rfl, ?_⟩
        refine wE_pl rfl (relA x8) (ok.mr at_ w) fun v9 H9 x9 r9 => fin v9 H9 (exHH fun a o h h1 h2 => x9 _ _ (x8 _ _ (k7 a o h h1 h2))) ?_
        cases ha
        exact Rp.ex (hide_le fun a z => .inl (.inl z)) _ _ r9
      | some d =>
        intro H8 a hal k8 n8
        refine ⟨true, rfl, ?_⟩
        have am : a ∈ as := List.mem_of_getLast? hal
        refine ⟨as, addLast d dss, ends, l10', t1, t2, t3, hil, rfl, fun b o h h1 h2 => k8 b o (k7 b o h h1 h2) (fun z => by rw [z, n5 a am] at h; cases h), n5, nd, n8.top, k8 u _ (x67 _ _ hu') (fun z => uas (by rw [z]; exact am)), n8.cel, go⟩
  · have e1 : i = items'.length := by omega
    subst e1
    refine .inl ⟨wk'.stop (P as) H' (exV k5), ?_⟩
    rw [List.drop_length] at go
    unfold regGo at go
    cases go
    simp only at ha
    unfold RegM.tail at ha
    split at ha
    case h_2 => cases ha
    rename_i d ρt' em
    cases ha
    have ex' : Ex (hide H' (P as)) (hide H' (fun a => O a ∨ a = u)) := hide_le fun a z => by
      rcases z with z | z
      · exact .inl (.inl z)
      · exact .inl (.inr (.inr z))
    have hidt : ∀ a, hid O [.un, .val rows, .val (.lst (dss.map .lst)), .own (.lst (ends.map .int)), .un, .un, .un, .un, .un, .un] σ' a → O a ∨ a = u := fun a z => by
      rcases z with z | ⟨j, z1, z2⟩
      · exact .inl z
      · have : j = 3 := by
          match j, z1 with
          | 3, _ => rfl
          | 0, z1 => cases z1
          | 1, z1 => cases z1
          | 2, z1 => cases z1
          | 4, z1 => cases z1
          | 5, z1 => cases z1
          | 6, z1 => cases z1
          | 7, z1 => cases z1
          | 8, z1 => cases z1
          | 9, z1 => cases z1
          | _ + 10, z1 => cases z1
        subst this
        rw [s3] at z2; cases z2
        exact .inr rfl
    have exT : Ex (hide H' (fun a => O a ∨ a = u)) (vis O [.un, .val rows, .val (.lst (dss.map .lst)), .own (.lst (ends.map .int)), .un, .un, .un, .un, .un, .un] σ' H') := hide_le hidt
    have only3 : ∀ j, kd [.un, .val rows, .val (.lst (dss.map .lst)), .own (.lst (ends.map .int)), .un, .un, .un, .un, .un, .un] j ≠ 0 → j = 3 := fun j z1 => by
      match j, z1 with
      | 3, _ => rfl
      | 0, z1 => exact absurd rfl z1
      | 1, z1 => exact absurd rfl z1
      | 2, z1 => exact absurd rfl z1
      | 4, z1 => exact absurd rfl z1
      | 5, z1 => exact absurd rfl z1
      | 6, z1 => exact absurd rfl z1
      | 7, z1 => exact absurd rfl z1
      | 8, z1 => exact absurd rfl z1
      | 9, z1 => exact absurd rfl z1
      | _ + 10, z1 => exact absurd rfl z1
    have vint : ∀ {B : Hp} (is : List Int), Rps K cl B (is.map .int) (is.map .int) := fun {B} is => by
      induction is with
      | nil => exact Rps.nil
      | cons i is ih => exact Rps.cons (by simp only [Rp]) ih
    have nOp : ¬ O p := fun z => (nO p z).1 rfl
    have nOu : ¬ O u := fun z => (nO u z).2 rfl
    have relT : Rel K cl O [.un, .val rows, .val (.lst (dss.map .lst)), .own (.lst (ends.map .int)), .un, .un, .un, .un, .un, .un] σ' H' := by
      refine ⟨by rw [l10]; rfl, fun j s hs => ?_, fun j k a h1 h2 _ _ => by rw [only3 j h1, only3 k h2], fun a z => domP (Ex.refl _) a (.inl (.inl z))⟩
      match j, hs with
      | 0, hs => cases hs; trivial
      | 1, hs => cases hs; exact ⟨vr, s1, Rp.ex (Ex.trans (exV k5) (Ex.trans ex' exT)) _ _ r5⟩
      | 2, hs =>
        cases hs
        refine ⟨.ref p, s2, ?_⟩
        simp only [Rp]
        refine ⟨p, as.map .ref, rfl, exT _ _ (hide_some.mpr ⟨fun z => ?_, hp'⟩), cel.rps (Ex.trans ex' exT) fun a am o h => exT _ _ (hide_some.mpr ⟨fun z => ?_, h⟩)⟩
        · rcases z with z | z
          · exact nOp z
          · exact hup z.symm
        · rcases z with z | z
          · have := n5 a am
            cases e : H a with
            | none => exact r.dom a z e
            | some o' => rw [x35 _ _ (g3 _ _ (x1 _ _ e))] at this; cases this
          · exact uas (by rw [← z]; exact am)
      | 3, hs => cases hs; exact ⟨u, s3, nOu, ends.map .int, hu', vint _⟩
      | 4, hs => cases hs; trivial
      | 5, hs => cases hs; trivial
      | 6, hs => cases hs; trivial
      | 7, hs => cases hs; trivial
      | 8, hs => cases hs; trivial
      | 9, hs => cases hs; trivial
      | _ + 10, hs => cases hs
    refine ⟨_, O, relT, ?_⟩
    rw [okR_some em]
    intro v σ9 H9 p9 r9
    refine fin v H9 (fun a o h => p9.fr a o (exHH k5 a o h) fun ⟨j, h1, h2⟩ => ?_) (Rp.ex (hide_le fun a z => .inl z) _ _ r9)
    rw [only3 j h1, s3] at h2
    cases h2
    have := x35 _ _ (g3 _ _ (x1 _ _ h))
    have z : H1 u = none := hu1
    rw [x1 _ _ h] at z; cases z
end
end DF
namespace DF
open PySem PySem.Spec L2 Evl
section
variable {K : PySem.W.Frag} {cl : Nat → Addr} {O : Addr → Prop} {ρ ρ' : Env} {σ σ' : L2.St} {H H' H1 H2 : Hp}
theorem FunD.plain {K : PySem.W.Frag} {x qual : Str} {st : Stmt} {f : Addr} {fd : FuncData} (F : FunD K x qual (defArgs st) (defBody st) (defScope st) [] [] f fd) : Fun K x qual st f fd := by
  obtain ⟨oc, od, dV, kV, doc, pm, an, cdv, ct, osl, e, lk, hcd, hD, _⟩ := F.ex
  have hd : dV = .none := by
    rcases hD with ⟨_, e⟩ | ⟨e, _⟩
    · exact e
    · exact absurd rfl e
  subst hd
  exact ⟨⟨oc, od, kV, doc, pm, an, cdv, ct, osl, e, lk, hcd⟩, F.kp⟩
section
variable {P : Program} {w : World} {mg : Str → Option Value} {base : Heap} {x : Str} {st : Stmt} {N ps : List Str} {k : Nat}
theorem ok_reg {M : RegM} (ok : M.Ok) (F : Def K mg x st) (S : FnScope N ps (defScope st)) (hN : N.length = 10) (h2 : ps.length = 1)
    (hb : ∀ (kV doc pm : Value) (an : Option Addr) (cdv ct : Value) (us : List Value), us.length = ps.length → bindArgs (PySem.W.fnOf x x (defArgs st) (defBody st) (defScope st) .none kV doc pm an cdv ct) ⟨us, []⟩ = pure (ps.zip us))
    (hbody : ∀ (f : Addr) (cdv : Value) (A : Around) (outer : List PySem.Env) (s : Shared) (H : Hp) (E : XK), Room k (A.deeper (PyProof.Rows.envOfC x (defScope st) s.heap.objs.size f cdv)) →
      PSs (cxOf CX0 P w K mg base N x (defScope st) f cdv A outer s H E).nox (defBody st) (t_reg K cl M.m0 M.m1 M.m2 M.mi M.g M.tn M.st M.ma M.mr M.mt)) : Ok P w K cl mg base (k + 1) x ps M.fn := by
  obtain ⟨f, fd, FD, g⟩ := F
  refine ⟨f, fd, fun_ok (FunD.plain FD) S (fun vs H Q E h => h.1) fun cdv A outer s H vs Q E hr h => ⟨_, hbody f cdv A outer s H E hr, pure_reg ok vs H Q E N hN (by rw [h2] at h; exact h)⟩, g, FD.kp, FD.bindsN hb, FunD.look FD⟩
end
theorem pe_stand {X : Cx} {k j : Nat} {x : Str} {ps : List Str} {a : Expr} {es : List Expr} {t : TA} {p pos : Pos} {F : List (List D) → D → Option (Option D)} (h : OkStand X.prog X.w X.K cl X.mg X.base k x ps F) (hr : Room j X.A) (hk : k ≤ j) (ha : PA X (a :: es) t) (hg : Gl X x := by rfl)
    (hdb : (x == ("__debug__" : Str)) = false := by decide) (he : starEach (a :: es) X.env = (false, eval a X.env) :: starEach es X.env := by rfl) (hpl : (backTo pos (starEach es X.env)).any (·.1) = false := by rfl) :
    PE X (.Call (.Name x p) (a :: es) [] pos) (tCall (spStand X.K cl F) [] E0 t) := by
  obtain ⟨f, fd, G, g, kp, bd⟩ := h
  exact pe_call G (hr.mono hk) hg g kp bd .nil pass0 ha hdb he hpl

/-! ### a class with two slots -/
structure BookM where
  t1 : MT
  m2 : ME
  g : MG
  t3 : MT
  m5 : ME
abbrev u5 : Env := [.un, .un, .un, .un, .un]
def BookM.fn (M : BookM) (text : D) : Option D :=
  (et M.t1 [.un, .val text, .un, .un, .un]).bind fun b1 => if b1 = true then none else
  (ev M.m2 [.un, .val text, .un, .un, .un]).bind fun r => match r with
    | .tup [found, number] => (et M.t3 [.un, .un, .val found, .un, .un]).bind fun b3 => if b3 = true then none else ev M.m5 [.un, .un, .val found, .un, .un]
    | _ => none
structure BookM.Ok (M : BookM) : Prop where
  g : ∀ a b, M.g (.tup [a, b]) u5 = .ok [.un, .un, .val a, .val b, .un]
def spBook (K : PySem.W.Frag) (cl : Nat → Addr) (C : Addr) (F : D → Option D) : Sp := fun vs H Q _ => ∃ (x dx : Addr) (vt : V) (O : Addr → Prop) (text d : D), vs = [.ref x, vt] ∧ H x = some (.ins C dx []) ∧ dx ≠ x ∧ (∀ a, O a → H a ≠ none) ∧ O x ∧ O dx ∧
  Rp K cl (hide H O) text vt ∧ F text = some d ∧ ∀ H' vr, (∀ a o, H a = some o → a ≠ x → a ≠ dx → H' a = some o) → H' x = some (SlX.SlO x C dx [some vr, some vt]) → H' dx = some (.xd []) → Rp K cl (hide H' O) d vr → Rp K cl (hide H' O) text vt → Q .non H'
def t_book (K : PySem.W.Frag) (cl : Nat → Addr) (t1 : MT) (m2 : ME) (g : MG) (t3 : MT) (m5 : ME) (f1 f2 : Str) : TS :=
  tSeq (tIfS (wT K cl Z0 t1) tNever tNext) (tSeq (tAsg (wE K cl Z0 m2) (wG K cl Z0 [2, 3] g)) (tSeq (tIfS (wT K cl Z0 t3) tNever tNext) (tSeq (SlX.sSl K (tVar 0) (tVar 1) f1) (SlX.sSl K (tVar 0) (wE K cl Z0 m5) f2))))
theorem tSeqIfN_of {m : MT} {u : TS} {D : Ends} (h : wT K cl Z0 m σ H fun b H1 => b = false ∧ u D σ H1) : tSeq (tIfS (wT K cl Z0 m) tNever tNext) u D σ H := by
  obtain ⟨ρ, O, r, g⟩ := h
  refine ⟨ρ, O, r, g.mono (fun x q H' p => ?_) fun _ _ _ w => w⟩
  obtain ⟨e, q⟩ := q H' p
  rw [e, if_neg (by decide)]
  exact q
theorem pure_book {M : BookM} (ok : M.Ok) {C p1 p2 : Addr} {f1 f2 : Str} (hc : SlX.SCls K C) (h1 : SlX.Slot1 K C f1 p1 1) (h2 : SlX.Slot1 K C f2 p2 0) (vs : List V) (H : Hp) (Q : VK) (E : XK) (N : List Str) (hN : N.length = 5) (h : spBook K cl C M.fn vs H Q E) :
    t_book K cl M.t1 M.m2 M.g M.t3 M.m5 f1 f2 { nx := fun _ H' => Q .non H', rt := Q } (L2.start N vs) H := by
  obtain ⟨x, dx, vt, O, text, d, rfl, hx, hne, dom, ox, odx, ht, hF, q⟩ := h
  have hσ : L2.start N [.ref x, vt] = [some (.ref x), some vt, none, none, none] := by unfold L2.start; rw [hN]; rfl
  rw [hσ]
  unfold BookM.fn at hF
  obtain ⟨b1, e1, hF⟩ := Option.bind_eq_some_iff.mp hF
  split at hF
  · cases hF
  rename_i hb1
  obtain ⟨r, e2, hF⟩ := Option.bind_eq_some_iff.mp hF
  split at hF
  case h_2 => cases hF
  rename_i found number
  obtain ⟨b3, e3, hF⟩ := Option.bind_eq_some_iff.mp hF
  split at hF
  · cases hF
  rename_i hb3
  have rel1 : ∀ {Ha : Hp}, Ex H Ha → Rel K cl O [.un, .val text, .un, .un, .un] [some (.ref x), some vt, none, none, none] Ha := fun {Ha} x => rel_of rfl rfl (fun i d hi => by
    match i, hi with
    | 0, hi => cases hi
    | 1, hi => cases hi; exact ⟨_, rfl, Rp.ex (hide_of_ex x) _ _ ht⟩
    | 2, hi => cases hi
    | 3, hi => cases hi
    | 4, hi => cases hi
    | _ + 5, hi => cases hi) (fun a z => by
      cases e : H a with
      | none => exact absurd e (dom a z)
      | some o => rw [x _ _ e]; exact Option.some_ne_none _)
  have domx : ∀ {Ha : Hp}, Ex H Ha → ∀ a, O a → Ha a ≠ none := fun {Ha} x => (rel1 x).dom
  refine tSeqIfN_of (wT_pl rfl (rel1 (Ex.refl _)) e1 fun H1 x1 => ⟨by simpa using hb1, ?_⟩)
  refine wE_pl rfl (rel1 x1) e2 fun v H2 x2 r2 => ?_
  have x12 := Ex.trans x1 x2
  refine ⟨u5, O, _, rel_of rfl rfl (fun i d hi => ?_) (domx x12), Rp.ex (vis_pl rfl) _ _ r2, ?_⟩
  · match i, hi with
    | 0, hi => cases hi
    | 1, hi => cases hi
    | 2, hi => cases hi
    | 3, hi => cases hi
    | 4, hi => cases hi
    | _ + 5, hi => cases hi
  rw [ok.g]
  intro σ2 p2' ⟨⟨l2, so⟩, _⟩
  have t0 : σ2[0]? = some (some (.ref x)) := by rw [so 0 (by decide)]; rfl
  have t1 : σ2[1]? = some (some vt) := by rw [so 1 (by decide)]; rfl
  obtain ⟨vf, t2, q2⟩ := p2'.rel.at_ 2 _ rfl
  have q2 : Rp K cl (hide H2 O) found vf := Rp.ex (hide_le fun a z => .inl z) _ _ q2
  have relF : ∀ {Ha : Hp}, (∀ a o, H2 a = some o → a ≠ x → a ≠ dx → Ha a = some o) → (Ha x ≠ none) → (Ha dx ≠ none) → Rel K cl O [.un, .un, .val found, .un, .un] σ2 Ha := fun {Ha} k k1 k2 => rel_of (by rw [l2]; rfl) rfl (fun i d hi => by
    match i, hi with
    | 0, hi => cases hi
    | 1, hi => cases hi
    | 2, hi =>
      cases hi
      exact ⟨_, t2, Rp.ex (hide_mono fun a o h e => ⟨h, k a o e (fun z => h (by rw [z]; exact ox)) (fun z => h (by rw [z]; exact odx))⟩) _ _ q2⟩
    | 3, hi => cases hi
    | 4, hi => cases hi
    | _ + 5, hi => cases hi) (fun a z => by
      by_cases ea : a = x
      · rw [ea]; exact k1
      · by_cases eb : a = dx
        · rw [eb]; exact k2
        · cases e : H2 a with
          | none => exact absurd e (domx x12 a z)
          | some o => rw [k a o e ea eb]; exact Option.some_ne_none _)
  have hx2 := x12 _ _ hx
  have hdx2 : H2 dx ≠ none := domx x12 dx odx
  refine tSeqIfN_of (wT_pl rfl (relF (fun a o h _ _ => h) (by rw [hx2]; exact Option.some_ne_none _) hdx2) e3 fun H3 x3 => ⟨by simpa using hb3, ?_⟩)
  have hx3 := x3 _ _ hx2
  refine ⟨vt, t1, .ref x, t0, x, C, dx, p1, [], 1, rfl, .inl ⟨hx3, rfl⟩, hc, h1, ?_⟩
  have hs : SlX.slH H3 x C dx (SlX.putS 1 vt []) = SlX.slH H3 x C dx [none, some vt] := rfl
  rw [hs]
  generalize hH4 : SlX.slH H3 x C dx [none, some vt] = H4
  have s4 : SlX.Slt H4 x C dx [none, some vt] := by rw [← hH4]; exact SlX.slH_slt hne
  have k4 : ∀ a o, H3 a = some o → a ≠ x → a ≠ dx → H4 a = some o := fun a o h h1 h2 => by rw [← hH4, SlX.slH_ne h1 h2]; exact h
  have hx4 : H4 x = some (SlX.SlO x C dx [none, some vt]) := by rw [← hH4]; unfold SlX.slH; rw [upd_same]
  have hdx4 : H4 dx = some (.xd []) := by rw [← hH4]; unfold SlX.slH; rw [upd_ne hne, upd_same]
  refine wE_pl rfl (relF (fun a o h h1 h2 => k4 a o (x3 _ _ h) h1 h2) (by rw [hx4]; exact Option.some_ne_none _) (by rw [hdx4]; exact Option.some_ne_none _)) hF fun vr H5 x5 r5 => ?_
  have s5 : SlX.Slt H5 x C dx [none, some vt] := slt_ex x5 s4
  refine ⟨.ref x, t0, x, C, dx, p2, [none, some vt], 0, rfl, s5, hc, h2, ?_⟩
  have hs2 : SlX.slH H5 x C dx (SlX.putS 0 vr [none, some vt]) = SlX.slH H5 x C dx [some vr, some vt] := rfl
  rw [hs2]
  generalize hH6 : SlX.slH H5 x C dx [some vr, some vt] = H6
  have k6 : ∀ a o, H5 a = some o → a ≠ x → a ≠ dx → H6 a = some o := fun a o h h1 h2 => by rw [← hH6, SlX.slH_ne h1 h2]; exact h
  have k06 : ∀ a o, H a = some o → a ≠ x → a ≠ dx → H6 a = some o := fun a o h h1 h2 => k6 a o (x5 _ _ (k4 a o (x3 _ _ (x12 _ _ h)) h1 h2)) h1 h2
  refine q H6 vr k06 (by rw [← hH6]; unfold SlX.slH; rw [upd_same]) (by rw [← hH6]; unfold SlX.slH; rw [upd_ne hne, upd_same]) (Rp.ex (hide_mono fun a o h e => ⟨h, k6 a o e (fun z => h (by rw [z]; exact ox)) (fun z => h (by rw [z]; exact odx))⟩) _ _ r5) (Rp.ex (hide_mono fun a o h e => ⟨h, k06 a o e (fun z => h (by rw [z]; exact ox)) (fun z => h (by rw [z]; exact odx))⟩) _ _ ht)
def DefM (K : PySem.W.Frag) (C : Addr) (x qual : Str) (st : Stmt) : Prop := ∃ f fd, FunD K x qual (defArgs st) (defBody st) (defScope st) [] [] f fd ∧ Mk K C f
def OkBook (P : Program) (w : World) (K : PySem.W.Frag) (cl : Nat → Addr) (mg : Str → Option Value) (base : Heap) (k : Nat) (C : Addr) (ps : List Str) (F : D → Option D) : Prop :=
  ∃ f fd, FnOk P w K mg base CX0 k f fd ps (spBook K cl C F) ∧ Mk K C f ∧ Binds K fd ps []
theorem ok_book {P : Program} {w : World} {mg : Str → Option Value} {base : Heap} {x qual : Str} {st : Stmt} {N ps : List Str} {k : Nat} {M : BookM} (ok : M.Ok) {C : Addr} {f1 f2 : Str} (hc : SlX.SCls K C) (h1 : ∃ p1, SlX.Slot1 K C f1 p1 1) (h2 : ∃ p2, SlX.Slot1 K C f2 p2 0) (F : DefM K C x qual st) (S : FnScope N ps (defScope st)) (hN : N.length = 5) (hp : ps.length = 2)
    (hb : ∀ (kV doc pm : Value) (an : Option Addr) (cdv ct : Value) (us : List Value), us.length = ps.length → bindArgs (PySem.W.fnOf x qual (defArgs st) (defBody st) (defScope st) .none kV doc pm an cdv ct) ⟨us, []⟩ = pure (ps.zip us))
    (hbody : ∀ (f : Addr) (cdv : Value) (A : Around) (outer : List PySem.Env) (s : Shared) (H : Hp) (E : XK), Room k (A.deeper (PyProof.Rows.envOfC qual (defScope st) s.heap.objs.size f cdv)) →
      PSs (cxOf CX0 P w K mg base N qual (defScope st) f cdv A outer s H E).nox (defBody st) (t_book K cl M.t1 M.m2 M.g M.t3 M.m5 f1 f2)) : OkBook P w K cl mg base (k + 1) C ps M.fn := by
  obtain ⟨f, fd, FD, mk⟩ := F
  obtain ⟨p1, h1⟩ := h1
  obtain ⟨p2, h2⟩ := h2
  refine ⟨f, fd, fun_ok (FunD.plain FD) S (fun vs H Q E h => ?_) fun cdv A outer s H vs Q E hr h => ⟨_, hbody f cdv A outer s H E hr, pure_book ok hc h1 h2 vs H Q E N hN h⟩, mk, FD.bindsN hb⟩
  obtain ⟨_, _, _, _, _, _, rfl, _⟩ := h
  rw [hp]; rfl
def mNew (c : Nat) (F : D → Option D) (ma : MA) : ME := fun ρ => (ma ρ).bind fun x => match x.1 with
  | [t] => (lft (F t)).bind fun d => .ok (.obj c [d, t], x.2)
  | _ => .bad
theorem de_new {X : Cx} {k j c : Nat} {x : Str} {ps : List Str} {a : Expr} {es : List Expr} {mr : MA} {p pos : Pos} {F : D → Option D} (h : OkBook X.prog X.w X.K cl X.mg X.base k (cl c) ps F) (hr : Room j X.A) (hk : k + 1 ≤ j) (ha : PA X (a :: es) (wA X.K cl Z0 mr)) (hm : X.mg x = some (.ref (cl c))) (hg : Gl X x := by rfl)
    (hdb : (x == ("__debug__" : Str)) = false := by decide) (he : starEach (a :: es) X.env = (false, eval a X.env) :: starEach es X.env := by rfl) (hpl : (backTo pos (starEach es X.env)).any (·.1) = false := by rfl) :
    PE X (.Call (.Name x p) (a :: es) [] pos) (wE X.K cl Z0 (mNew c F mr)) := by
  obtain ⟨f, fd, G, mk, bd⟩ := h
  refine (pe_make mk G (hr.mono hk) hg hm bd .nil pass0 ha hdb he hpl).wk fun σ H Q ⟨ρ, O, r, q⟩ => wA_then Z0.ok r q fun ds ρ1 vs H1 p1 q1 => ?_
  intro y dy hy hdy hne
  simp only at q1
  split at q1
  case h_2 => exact q1.elim
  rename_i t
  obtain ⟨d, e, q2⟩ := Gd.lft q1
  obtain ⟨vt, rfl, ht⟩ := rps1 p1.val
  have exU : ∀ {Ha : Hp}, (∀ a o, upd (upd H1 dy (.own y)) y (.ins (cl c) dy []) a = some o → a ≠ y → a ≠ dy → Ha a = some o) → Ex H1 Ha := fun {Ha} k a o h => by
    have n1 : a ≠ y := fun z => by rw [z, hy] at h; cases h
    have n2 : a ≠ dy := fun z => by rw [z, hdy] at h; cases h
    exact k a o (by rw [upd_ne n1, upd_ne n2]; exact h) n1 n2
  have hidn : ∀ a, hid O ρ1 σ a → a ≠ y ∧ a ≠ dy := fun a z => ⟨(fun w => p1.po.rel.hid_some z (by rw [w]; exact hy)), (fun w => p1.po.rel.hid_some z (by rw [w]; exact hdy))⟩
  refine ⟨y, dy, vt, fun a => hid O ρ1 σ a ∨ a = y ∨ a = dy, t, d, rfl, upd_same, hne, fun a z => ?_, .inr (.inl rfl), .inr (.inr rfl), Rp.ex (hide_mono fun a o h e => ⟨(fun z => ?_), ?_⟩) _ _ ht, e, fun H' vr k k1 k2 r1 r2 => ⟨rfl, ?_⟩⟩
  · rcases z with z | z | z
    · obtain ⟨n1, n2⟩ := hidn a z
      rw [upd_ne n1, upd_ne n2]; exact p1.po.rel.hid_some z
    · rw [z, upd_same]; exact Option.some_ne_none _
    · rw [z, upd_ne hne, upd_same]; exact Option.some_ne_none _
  · rcases z with z | z | z
    · exact h z
    · rw [z, hy] at e; cases e
    · rw [z, hdy] at e; cases e
  · rw [upd_ne (fun z => by rw [z, hy] at e; cases e), upd_ne (fun z => by rw [z, hdy] at e; cases e)]; exact e
  · have ex := exU k
    refine q2 _ H' (p1.poT.lays ex ?_)
    simp only [Rp]
    have sub : Ex (hide H' fun a => hid O ρ1 σ a ∨ a = y ∨ a = dy) (hide H' (hid O ρ1 σ)) := hide_le fun a z => .inl z
    refine ⟨y, dy, [vr, vt], rfl, .inr ⟨hide_some.mpr ⟨fun z => (hidn y z).1 rfl, k1⟩, hide_some.mpr ⟨fun z => (hidn dy z).2 rfl, k2⟩⟩, Rps.cons (Rp.ex sub _ _ r1) (Rps.cons (Rp.ex sub _ _ r2) Rps.nil)⟩
end
end DF
namespace DF
open PySem PySem.Spec L2 Evl
/-! ### facts of the head -/
section
variable {K : PySem.W.Frag}
def tupN (K : PySem.W.Frag) (x : Str) (vs : List He.Dv) : Bool := He.tupB K x vs && (match K.lookup (He.ga K x) with
  | some ⟨.type c, none, _, _⟩ => decide (c = "tuple")
  | _ => false)
theorem tupN_ok {x : Str} {vs : List He.Dv} (h : tupN K x vs = true) : (∀ H, SqT K H (He.ga K x) (vs.map (He.Dv.v K))) ∧ ∃ ob, K.lookup (He.ga K x) = some ob ∧ ob.cls = .type "tuple" ∧ ob.dict = none := by
  obtain ⟨h1, h2⟩ := He.ba h
  refine ⟨fun H => He.tupB_ok h1 H, ?_⟩
  split at h2
  · rename_i c dt sl e
    exact ⟨_, e, congrArg Value.type (of_decide_eq_true h2), rfl⟩
  · cases h2
def sclsB (K : PySem.W.Frag) (x : Str) : Bool := PySem.W.plainGet K (He.ga K x) Str.empty && (PySem.W.isClsIn K (He.ga K x) && (PySem.W.plainOver K (He.ga K x) && He.eqO (PySem.W.findIn K (.ref (He.ga K x)) "__setattr__") (some (some (.builtin "object.__setattr__")))))
theorem sclsB_ok {x : Str} (h : sclsB K x = true) : SlX.SCls K (He.ga K x) := by
  obtain ⟨h1, h⟩ := He.ba h
  obtain ⟨h2, h⟩ := He.ba h
  obtain ⟨h3, h⟩ := He.ba h
  exact ⟨h1, h2, h3, He.eqO_ok h⟩
def slotB (K : PySem.W.Frag) (x f : Str) (i : Nat) : Bool := He.eqO (PySem.W.findIn K (.ref (He.ga K x)) f) (some (some (.ref (He.ma K (He.ga K x) f)))) && (He.eqO (PySem.W.specialIn K (.ref (He.ma K (He.ga K x) f)) "__get__") (some (some (.builtin "member_descriptor.__get__"))) &&
  (decide (PySem.W.takesIn K (.ref (He.ma K (He.ga K x) f)) = some true) && (decide (PySem.W.typeIn K (.ref (He.ma K (He.ga K x) f)) = some (.type "member_descriptor")) && (decide (PySem.W.slotIn K (He.ma K (He.ga K x) f) (He.ga K x) = some i) && decide (i < 1000)))))
theorem slotB_ok {x f : Str} {i : Nat} (h : slotB K x f i = true) : ∃ pa, SlX.Slot1 K (He.ga K x) f pa i := by
  obtain ⟨h1, h⟩ := He.ba h
  obtain ⟨h2, h⟩ := He.ba h
  obtain ⟨h3, h⟩ := He.ba h
  obtain ⟨h4, h⟩ := He.ba h
  obtain ⟨h5, h6⟩ := He.ba h
  exact ⟨_, He.eqO_ok h1, He.eqO_ok h2, of_decide_eq_true h3, of_decide_eq_true h4, of_decide_eq_true h5, of_decide_eq_true h6⟩
section
variable {cl : Nat → Addr} {h : Heap} {mg : Str → Option Value} {fa : List He.Fa} {fn : List He.DefD}
theorem def_of (X : K.In h) (G : h.Ns mainGlobals mg) (c : He.SaysD fa fn K) {x : Str} {st : Stmt} (i j : Nat) (hi : fn[i]? = some ⟨(x, none), x, x, defArgs st, defBody st, defScope st, [], []⟩) (hj : fa[j]? = some (.glo x)) : Def K mg x st := by
  obtain ⟨fd, F⟩ := c.def_ i hi
  exact ⟨_, fd, F, He.glo_ok X G (c.fact j hj)⟩
theorem defM_of (c : He.SaysD fa fn K) {C x q : Str} {st : Stmt} (i j : Nat) (hi : fn[i]? = some ⟨(C, some x), x, q, defArgs st, defBody st, defScope st, [], []⟩) (hj : fa[j]? = some (.mkr C)) (hx : x = "__init__") : DefM K (He.ga K C) x q st := by
  subst hx
  obtain ⟨fd, F⟩ := c.def_ i hi
  exact ⟨_, fd, F, He.mkr_ok (c.fact j hj)⟩
theorem tup_of (X : K.In h) (G : h.Ns mainGlobals mg) (c : He.SaysD fa fn K) {x : Str} {dvs : List He.Dv} {vs : List V} (j : Nat) (hj : fa[j]? = some (.glo x)) (ht : tupN K x dvs = true) (hv : dvs.map (He.Dv.v K) = vs) :
    ∃ q, mg x = some (.ref q) ∧ (∀ H, SqT K H q vs) ∧ ∃ ob, K.lookup q = some ob ∧ ob.cls = .type "tuple" ∧ ob.dict = none := by
  subst hv
  exact ⟨_, He.glo_ok X G (c.fact j hj), (tupN_ok ht).1, (tupN_ok ht).2⟩
end
theorem ok_base {P : Program} {w : World} {cl : Nat → Addr} {mg : Str → Option Value} {x : Str} {st : Stmt} {ps : List Str} {F : ME} {k : Nat} (hD : Def K mg x st) (h : ∀ base, Ok P w K cl mg base k x ps F) :
    ∃ f fd, mg x = some (.ref f) ∧ FunD K x x (defArgs st) (defBody st) (defScope st) [] [] f fd ∧ ∀ base, FnOk P w K mg base CX0 k f fd ps (spF K cl ps.length F) := by
  obtain ⟨f, fd, FD, g⟩ := hD
  refine ⟨f, fd, g, FD, fun base => ?_⟩
  obtain ⟨f', fd', G, g', _, _, oc, od, osl, lk⟩ := h base
  rw [g] at g'; cases g'
  obtain ⟨oc2, od2, osl2, lk2⟩ := FunD.look FD
  rw [lk] at lk2; cases lk2
  exact G
theorem sp_law {cl : Nat → Addr} {F : ME} {H : Hp} {a : Addr} {ns : List Int} {E : XK} (e : ev F [.val (.scr ns)] = some (.bl true)) (hS : SqL K H a (ns.map V.int)) : spF K cl 1 F [.ref a] H (fun v _ => v = .bl true) E := by
  refine ⟨rfl, wE_pl (O := N0) rfl (rel_of rfl rfl (fun i d hi => ?_) (fun a z => z.elim)) e fun v H' _ r => by simpa only [Rp] using r⟩
  match i, hi with
  | 0, hi =>
    cases hi
    refine ⟨.ref a, rfl, ?_⟩
    simp only [Rp]
    exact ⟨a, rfl, ex_l ex_n0 hS⟩
  | _ + 1, hi => cases hi
end
end DF
namespace DF
open PySem PySem.Spec L2 Evl
/-! ### a new list of two -/
def catD : D → D → Option (List D)
  | .lst xs, .lst ys => if xs.length + ys.length ≤ sizeLine then some (xs ++ ys) else none
  | _, _ => none
def mCatL (ma mb : ME) : ML := fun ρ => (ma ρ).bind fun x => (mb x.2).bind fun y => (lft (catD x.1 y.1)).bind fun ds => .ok (.lst ds, y.2)
section
variable {X : Cx} {cl : Nat → Addr} {Z : ZK} {a b : Expr} {ma mb : ME} {pos : Pos}
theorem dl_cat (z : ZOk X.K cl Z) (ha : PE X a (wE X.K cl Z ma)) (hb : PE X b (wE X.K cl Z mb)) : PE X (.BinOp a .Add b pos) (wL X.K cl Z (mCatL ma mb)) :=
  (pe_op op_cat ha hb).wk fun σ H Q ⟨ρ, O, rr, q⟩ => w2 z rr q fun d1 d2 ρ1 ρ2 v w H2 p hv hw g2 => by
    obtain ⟨ds, e, g3⟩ := Gd.lft g2
    cases d1 <;> simp only [catD] at e <;> try (cases e; done)
    cases d2 <;> simp only at e <;> try (cases e; done)
    split at e
    · rename_i hz
      cases e
      simp only [Rp] at hv hw
      obtain ⟨l, vs, rfl, h1, h2⟩ := hv
      obtain ⟨m, ws, rfl, h3, h4⟩ := hw
      exact ⟨l, m, vs, ws, rfl, rfl, hide_at h1, hide_at h3, by rw [← h2.length, ← h4.length]; exact hz, fun t ht => g3 t _ (PoA.newL rr p ht (Rps.append h2 h4))⟩
    · cases e
end
end DF
namespace DF
open PySem PySem.Spec L2 Evl
/-! ### a star in a display -/
def seqOf : D → Option (List D)
  | .tup ds => some ds
  | .lst ds => some ds
  | _ => none
def mStar (ma : ME) (mr : MA) : MA := fun ρ => (ma ρ).bind fun x => (lft (seqOf x.1)).bind fun xs => (mr x.2).bind fun y => .ok (xs ++ y.1, y.2)
section
variable {X : Cx} {cl : Nat → Addr} {Z : ZK} {a b e : Expr} {es : List Expr} {ma mb : ME} {mr : MA} {p apos cpos pos : Pos}
theorem da_star (z : ZOk X.K cl Z) (ha : PE X e (wE X.K cl Z ma)) (hr : PA X es (wA X.K cl Z mr)) (hs : starEach (.Starred e p :: es) X.env = (true, eval e X.env) :: starEach es X.env := by rfl) : PA X (.Starred e p :: es) (wA X.K cl Z (mStar ma mr)) :=
  (StX.pa_star ha hr hs).wk fun σ H Q ⟨ρ, O, r, g⟩ => wE_then z r g fun d ρ1 v H1 p1 g1 => by
    obtain ⟨xs, e1, g2⟩ := Gd.lft g1
    have hv := p1.val
    cases d <;> simp only [seqOf] at e1 <;> try (cases e1; done)
    · cases e1
      simp only [Rp] at hv
      obtain ⟨q, vs, rfl, h1, h2⟩ := hv
      exact ⟨q, vs, rfl, .inl (hide_seqT h1), wA_then z p1.po.rel g2 fun ds ρ2 ws H2 p2 g3 => g3 _ _ ⟨p1.po.trans p2.po, fun i => (p1.sh i).trans (p2.sh i), Rps.append (Rps.ex (p2.po.ex p1.po.rel) _ _ h2) p2.val⟩⟩
    · cases e1
      simp only [Rp] at hv
      obtain ⟨q, vs, rfl, h1, h2⟩ := hv
      exact ⟨q, vs, rfl, .inr (SqL.of (hide_at h1)), wA_then z p1.po.rel g2 fun ds ρ2 ws H2 p2 g3 => g3 _ _ ⟨p1.po.trans p2.po, fun i => (p1.sh i).trans (p2.sh i), Rps.append (Rps.ex (p2.po.ex p1.po.rel) _ _ h2) p2.val⟩⟩
/-! ### f-strings -/
def fFmt : D → Option D
  | .str y => if y.length ≤ sizeLine then some (.str y) else none
  | .int i => if i.natAbs.log2 < 1920 then some (.str (toString i)) else none
  | _ => none
theorem de_fmt (z : ZOk X.K cl Z) (ha : PE X e (wE X.K cl Z ma)) : PE X (.FormattedValue e (-1) none pos) (wE X.K cl Z (mUn fFmt ma)) :=
  (pe_fmt ha).wk fun σ H Q ⟨ρ, O, r, g⟩ => wE_then z r g fun d ρ1 v H1 p1 g1 => by
    obtain ⟨d', e1, g2⟩ := Gd.lft g1
    have hv := p1.val
    cases d <;> simp only [fFmt] at e1 <;> try (cases e1; done)
    · split at e1
      · rename_i hz
        cases e1
        simp only [Rp] at hv
        subst hv
        exact .inr ⟨_, rfl, hz, g2 _ _ ⟨p1.po, p1.sh, by simp only [Rp]⟩⟩
      · cases e1
    · split at e1
      · rename_i hz
        cases e1
        simp only [Rp] at hv
        subst hv
        exact .inl ⟨_, rfl, hz, g2 _ _ ⟨p1.po, p1.sh, by simp only [Rp]⟩⟩
      · cases e1
def mJs : List ME → Str → Env → Res (Str × Env)
  | [], acc, ρ => .ok (acc, ρ)
  | m :: ms, acc, ρ => (m ρ).bind fun x => (lft (asStr x.1)).bind fun y => if (acc ++ y).length ≤ sizeLine then mJs ms (acc ++ y) x.2 else .bad
def mFS (ms : List ME) : ME := fun ρ => (mJs ms Str.empty ρ).bind fun x => .ok (.str x.1, x.2)
inductive DJ (X : Cx) (cl : Nat → Addr) (Z : ZK) : List Expr → List ME → Prop
  | nil : DJ X cl Z [] []
  | cons {e : Expr} {m : ME} {es : List Expr} {ms : List ME} (h : PE X e (wE X.K cl Z m)) (r : DJ X cl Z es ms) : DJ X cl Z (e :: es) (m :: ms)
theorem DJ.pj {es : List Expr} {ms : List ME} (h : DJ X cl Z es ms) : PJ X es (ms.map (wE X.K cl Z)) := by
  induction h with
  | nil => exact .nil
  | cons h _ ih => exact .cons h ih
theorem js_run {β : Type} (z : ZOk X.K cl Z) : ∀ {ms : List ME} {acc : Str} {O : Addr → Prop} {ρ : Env} {σ : L2.St} {H : Hp} {f : Str × Env → Res β} {S : β → Prop} {R : Str → Hp → Prop},
    Rel X.K cl O ρ σ H → Gd ((mJs ms acc ρ).bind f) S (Z O ρ σ H) → (∀ out ρ1 H1, PoT X.K cl O ρ σ H ρ1 H1 → Gd (f (out, ρ1)) S (Z O ρ1 σ H1) → R out H1) → tJs (ms.map (wE X.K cl Z)) acc σ H R
  | [], acc, O, ρ, σ, H, f, S, R, r, g, k => k acc ρ H (PoT.refl r) g
  | m :: ms, acc, O, ρ, σ, H, f, S, R, r, g, k => by
    show wE X.K cl Z m σ H fun x H1 => ∃ y : Str, x = .str y ∧ (acc ++ y).length ≤ sizeLine ∧ tJs (ms.map (wE X.K cl Z)) (acc ++ y) σ H1 R
    unfold mJs at g
    rw [bind_assoc] at g
    refine wE_then z r g fun d ρ1 v H1 p1 g1 => ?_
    rw [bind_assoc] at g1
    obtain ⟨y, e1, g2⟩ := Gd.lft g1
    have hv := p1.val
    cases d <;> simp only [asStr] at e1 <;> try (cases e1; done)
    cases e1
    simp only [Rp] at hv
    subst hv
    split at g2
    case isFalse => exact g2.elim
    rename_i hz
    exact ⟨_, rfl, hz, js_run z p1.po.rel g2 fun out ρ2 H2 p2 g3 => k out ρ2 H2 (p1.poT.seq p2) g3⟩
theorem de_fs {v1 v2 : Expr} {rest : List Expr} {ms : List ME} (z : ZOk X.K cl Z) (h : DJ X cl Z (v1 :: v2 :: rest) ms) : PE X (.JoinedStr (v1 :: v2 :: rest) pos) (wE X.K cl Z (mFS ms)) :=
  (pe_joined h.pj).wk fun σ H Q ⟨ρ, O, r, g⟩ => js_run z r g fun out ρ1 H1 p1 g1 => g1 _ _ ⟨p1.po, p1.sh, by simp only [Rp]⟩
theorem de_fs1 {v : Expr} {m : ME} (h : PE X v (wE X.K cl Z m)) : PE X (.JoinedStr [v] pos) (wE X.K cl Z m) := pe_joined1 h
/-! ### list(d.items()), dict(pairs) -/
def itemsD : D → Option (List D)
  | .dct kvs => some (kvs.map fun kv => .tup [.str kv.1, kv.2])
  | _ => none
def mListItems (ma : ME) : ML := fun ρ => (ma ρ).bind fun x => (lft (itemsD x.1)).bind fun ds => .ok (.lst ds, x.2)
theorem rps_items {K : PySem.W.Frag} {Hv Hw : Hp} (ex : Ex Hv Hw) : ∀ {kvs : List (Str × D)} {ws : List (Key × V)} {ts : List Addr}, Rkv K cl Hv kvs ws → Paired (fun (t : Addr) (q : Key × V) => Hw t = some (.tup [kV q.1, q.2])) ts ws →
    Rps K cl Hw (kvs.map fun kv => .tup [.str kv.1, kv.2]) (ts.map V.ref)
  | [], ws, ts, h, p => by
    simp only [Rkv] at h; subst h
    cases p
    exact Rps.nil
  | (k, d) :: kvs, ws, ts, h, p => by
    simp only [Rkv] at h
    obtain ⟨v, r, rfl, h1, h2⟩ := h
    cases p with
    | cons q qs =>
      rw [List.map_cons, List.map_cons]
      refine Rps.cons ?_ (rps_items ex h2 qs)
      simp only [Rp]
      exact ⟨_, _, rfl, .inl (.inl q), Rps.cons (by simp only [Rp]; rfl) (Rps.cons (Rp.ex ex _ _ h1) Rps.nil)⟩
theorem dl_items (z : ZOk X.K cl Z) (hc : X.calm = true) (hm : X.mg "list" = none) (ha : PE X e (wE X.K cl Z ma)) (hg : Gl X "list" := by rfl)
    (hbase : attributeBase e "items" X.env (eval e X.env) = eval e X.env := by rfl) (hline : (apos.endLine == cpos.line) = true := by rfl)
    (hs : starEach [.Call (.Attribute e "items" apos) [] [] cpos] X.env = (false, eval (.Call (.Attribute e "items" apos) [] [] cpos) X.env) :: starEach [] X.env := by rfl) :
    PE X (.Call (.Name "list" p) [.Call (.Attribute e "items" apos) [] [] cpos] [] pos) (wL X.K cl Z (mListItems ma)) :=
  (LiI.pe_listItems hc ha hg hm PyProof.Rows.boot_list hbase hline hs).wk fun σ H Q ⟨ρ, O, r, g⟩ => wE_then z r g fun d ρ1 v H1 p1 g1 => by
    obtain ⟨ds, e1, g2⟩ := Gd.lft g1
    have hv := p1.val
    cases d <;> simp only [itemsD] at e1 <;> try (cases e1; done)
    cases e1
    simp only [Rp] at hv
    obtain ⟨a, ws, rfl, h1, h2⟩ := hv
    refine ⟨a, ws, rfl, hide_at h1, fun H' t ts ex ht hts nt e2 pr => ?_⟩
    let H2 : Hp := fun a => if a = t then none else H' a
    have h12 : Ex H1 H2 := fun b o hb => by
      have : b ≠ t := fun z => by rw [z, ht] at hb; cases hb
      show (if b = t then none else H' b) = some o
      rw [if_neg this]
      exact ex b o hb
    have ht2 : H2 t = none := if_pos rfl
    have hH : upd H2 t (.lst (ts.map V.ref)) = H' := by
      funext b
      by_cases hb : b = t
      · subst hb; rw [upd_same, e2]
      · rw [upd_ne hb]; exact if_neg hb
    have p2 : PoT X.K cl O ρ σ H ρ1 H2 := ⟨p1.po.trans (Po.of_ex p1.po.rel h12), p1.sh⟩
    have hx : Ex (vis O ρ1 σ H1) (vis O ρ1 σ H2) := hide_of_ex h12
    have key : ∀ (ts : List Addr) (ws : List (Key × V)), (∀ t ∈ ts, H1 t = none) → t ∉ ts → Paired (fun (t : Addr) (q : Key × V) => H' t = some (.tup [kV q.1, q.2])) ts ws → Paired (fun (t : Addr) (q : Key × V) => vis O ρ1 σ H2 t = some (.tup [kV q.1, q.2])) ts ws := by
      intro ts ws hts nt pr
      induction pr with
      | nil => exact .nil
      | @cons u q us qs h _ ih =>
        have hu : u ≠ t := fun z => nt (by rw [z]; exact List.mem_cons_self ..)
        refine .cons ?_ (ih (fun x hx => hts x (List.mem_cons_of_mem _ hx)) fun z => nt (List.mem_cons_of_mem _ z))
        refine hide_some.mpr ⟨fun z => p1.po.rel.hid_some z (hts u (List.mem_cons_self ..)), ?_⟩
        show (if u = t then none else H' u) = _
        rw [if_neg hu]
        exact h
    have := g2 t _ (PoA.newL r p2 ht2 (rps_items hx h2 (key ts ws hts nt pr)))
    rw [hH] at this
    exact this
def pairOf : D → Option (Str × D)
  | .tup [.str k, d] => some (k, d)
  | _ => none
def pairsOf : List D → Option (List (Str × D))
  | [] => some []
  | d :: ds => match pairOf d, pairsOf ds with
    | some p, some ps => some (p :: ps)
    | _, _ => none
def dictOf : D → Option (List (Str × D))
  | .lst ds => pairsOf ds
  | _ => none
def foldD (kvs : List (Str × D)) : List (Str × D) := kvs.foldl (fun acc kv => putD acc kv.1 kv.2) []
def mDictL (ma : ME) : ML := fun ρ => (ma ρ).bind fun x => (lft (dictOf x.1)).bind fun kvs => .ok (.dct (foldD kvs), x.2)
theorem PoT.newD {K : PySem.W.Frag} {O : Addr → Prop} {ρ ρ1 : Env} {σ : L2.St} {H H1 : Hp} {t : Addr} {kvs : List (Str × D)} {ws : List (Key × V)} (r : Rel K cl O ρ σ H) (p : PoT K cl O ρ σ H ρ1 H1) (ht : H1 t = none) (h : Rkv K cl (vis O ρ1 σ H1) kvs ws) :
    PoL K cl O ρ σ H (.dct kvs) ρ1 t (upd H1 t (.dK ws)) := by
  refine ⟨fresh_before r p ht, p.po.fr.trans (Fr.of_ex (M := Mu ρ1 σ) (Ex.new ht)) p.po.mu, p.sh, p.po.rel.laid ht, ws, upd_same, Rkv.ex ?_ _ _ h⟩
  exact hide_mono fun a u h e => by
    have ne : a ≠ t := fun z => by rw [z, ht] at e; cases e
    refine ⟨fun z => ?_, by rw [upd_ne ne]; exact e⟩
    rcases hid_ins.mp z with z | z
    · exact h z
    · exact ne z
theorem pairs_rp {K : PySem.W.Frag} {P : Addr → Prop} {H : Hp} : ∀ {ds : List D} {vs : List V} {kvs : List (Str × D)}, Rps K cl (hide H P) ds vs → pairsOf ds = some kvs →
    ∃ (ts : List Addr) (ws : List (Key × V)), vs = ts.map V.ref ∧ Paired (fun t (kv : Key × V) => SqT K H t [kV kv.1, kv.2]) ts ws ∧ Rkv K cl (hide H P) kvs ws
  | [], vs, kvs, h, e => by
    simp only [Rps] at h; subst h
    simp only [pairsOf] at e
    cases e
    exact ⟨[], [], rfl, .nil, by simp only [Rkv]⟩
  | d :: ds, vs, kvs, h, e => by
    simp only [Rps] at h
    obtain ⟨v, r, rfl, h1, h2⟩ := h
    unfold pairsOf at e
    split at e
    · rename_i q ps e1 e2
      cases e
      obtain ⟨ts, ws, rfl, pr, hk⟩ := pairs_rp h2 e2
      unfold pairOf at e1
      split at e1
      · rename_i k d'
        cases e1
        simp only [Rp] at h1
        obtain ⟨a, xs, rfl, h3, h4⟩ := h1
        simp only [Rps] at h4
        obtain ⟨v1, r1, rfl, h5, v2, r2, rfl, h6, rfl⟩ := h4
        simp only [Rp] at h5
        subst h5
        refine ⟨a :: ts, (.inr k, v2) :: ws, rfl, .cons (hide_seqT h3) pr, ?_⟩
        simp only [Rkv]
        exact ⟨v2, ws, rfl, h6, hk⟩
      · cases e1
    · cases e
theorem dl_dict (z : ZOk X.K cl Z) (hc : X.calm = true) (hm : X.mg "dict" = none) (ha : PE X a (wE X.K cl Z ma)) (hg : Gl X "dict" := by rfl) (he : starEach [a] X.env = (false, eval a X.env) :: starEach [] X.env := by rfl) (hpl : (backTo pos (starEach [] X.env)).any (·.1) = false := by rfl) :
    PE X (.Call (.Name "dict" p) [a] [] pos) (wL X.K cl Z (mDictL ma)) :=
  (pe_callTy (call_dictP hc) hg hm PyProof.Rows.boot_dict (da_cons z ha da_nil he) (by decide) (by decide) he hpl).wk fun σ H Q ⟨ρ, O, r, g⟩ => by
    have g' : Gd ((mCons ma mNil ρ).bind fun x => (lft (match x.1 with | [d] => dictOf d | _ => none)).bind fun kvs => Res.ok (Ct.dct (foldD kvs), x.2)) (fun x => ∀ p H', PoL X.K cl O ρ σ H x.1 x.2 p H' → Q (.ref p) H') (Z O ρ σ H) := by
      have e : (mCons ma mNil ρ).bind (fun x => (lft (match x.1 with | [d] => dictOf d | _ => none)).bind fun kvs => Res.ok (Ct.dct (foldD kvs), x.2)) = mDictL ma ρ := by
        unfold mCons mDictL mNil
        cases ma ρ <;> rfl
      rw [e]
      exact g
    refine wA_then z r g' fun ds ρ1 vs H1 p1 g1 => ?_
    obtain ⟨kvs, e1, g2⟩ := Gd.lft g1
    simp only at e1
    split at e1
    · rename_i d
      obtain ⟨v, rfl, h1⟩ := rps1 p1.val
      cases d <;> simp only [dictOf] at e1 <;> try (cases e1; done)
      simp only [Rp] at h1
      obtain ⟨q, ws, rfl, h2, h3⟩ := h1
      obtain ⟨ts, ws', rfl, pr, hk⟩ := pairs_rp h3 e1
      exact ⟨q, ts, ws', rfl, SqL.of (hide_at h2), pr, fun t ht => g2 t _ (PoT.newD r p1.poT ht (rkv_merge hk (by simp only [Rkv])))⟩
    · cases e1
end
end DF
namespace DF
open PySem PySem.Spec PyProof.Rows L2 Evl
/-! ### t[::-1], a tuple of two -/
section
variable {prog : Program} {w : World} {A : Around} {E : Value → Shared → Prop} {s : Shared}
theorem sliceApplied_rev {sl : Addr} {u : Tok} {Q : Int × Int × Nat → Shared → Prop} (hs : s.heap.IsSliceOf sl .none .none (.int (-1) u)) (h : Q ((1 : Int), -1, 2) s) :
    wpAny (model prog w) A (Builtin.Slice.sliceApplied (.ref sl) (pure (2 : Int))) Q E s := by
  obtain ⟨os, hos, hcs, hds⟩ := id hs
  unfold Builtin.Slice.sliceApplied Builtin.Slice.sliceFields
  refine wpAny_bind (wpAny_bind (wpAny_field hos hds (x := .none) rfl (wpAny_bind (wpAny_field hos hds (x := .none) rfl (wpAny_bind (wpAny_field hos hds (x := .int (-1) u) rfl (wpAny_pure ?_)))))))
  refine wpAny_bind (slicePart_int ?_)
  show wpAny _ _ (if ((-1 : Int) == 0) = true then _ else _) _ _ s
  rw [if_neg (by decide)]
  refine wpAny_bind (slicePart_none (wpAny_bind (slicePart_none (wpAny_bind (wpAny_pure ?_)))))
  exact wpAny_pure h
theorem getItem_tuple_rev {t sl : Addr} {x y : Value} {u : Tok} {Q : Value → Shared → Prop} (ht : IsTup s.heap t #[x, y]) (hs : s.heap.IsSliceOf sl .none .none (.int (-1) u))
    (h : Q (.ref s.heap.objs.size) { s with heap := s.heap.push { cls := .type "tuple", data := .seq #[y, x] } }) : wpAny (model prog w) A (getItem (.ref t) (.ref sl)) Q E s := by
  have hdrop : sizeOk (.seq #[y, x]) := by
    show 2 ≤ sizeLine
    decide
  obtain ⟨os, hos, hcs, hds⟩ := id hs
  have hTs : s.TypeIs (.ref sl) "slice" := ⟨os, hos, hcs⟩
  unfold getItem
  try with_reducible refine wpAny_holding ?_
  first | refine wpAny_bind (wpAny_pure ?_) | skip
  refine wpAny_bind (wpAny_sequenceKey ht.typeIs (by decide) ?_)
  refine wpAny_bind (wpAny_callSpecial?_slot (name := Str.ofString "__getitem__") ht.typeIs slot_tuple_getitem
    (wpAny_call_entry slot_tuple_getitem ht.typeIs entry_tuple_getitem ?_ (args_tuple_getitem _ _)))
  show wpAny _ _ (Builtin.Tuple.tupleItemsOf (.ref t) >>= _) _ _ s
  refine wpAny_bind (tupleItemsOf_ ht ?_)
  refine wpAny_bind (wpAny_typeOf hTs ?_)
  rw [if_pos (by decide)]
  refine wpAny_bind (sliceApplied_rev hs ?_)
  show wpAny _ _ (if ((1 : Int) == 0 && (-1 : Int) == 1 && (2 == 2)) = true then _ else _) _ _ s
  rw [if_neg (by decide)]
  have hp : ((List.range 2).filterMap fun (k : Nat) => (#[x, y] : Array Value)[((1 : Int) + (k : Int) * (-1)).toNat]?).toArray = #[y, x] := rfl
  rw [hp]
  first
    | exact wpAny_bind (m := Builtin.Tuple.tupleExact _) (wpAny_newObj_type (wpAny_pure ⟨_, rfl, wpAny_pure h⟩) hdrop)
    | exact wpAny_bind (m := Builtin.Tuple.tupleExact _) (wpAny_newObj_type (wpAny_bind (wpAny_pure (wpAny_pure ⟨_, rfl, wpAny_pure h⟩))) hdrop)
    | exact wpAny_bind (wpAny_bind (m := Builtin.Tuple.tupleExact _) (wpAny_newObj_type (wpAny_pure (wpAny_pure ⟨_, rfl, wpAny_pure h⟩)) hdrop))
    | exact wpAny_bind (wpAny_bind (m := Builtin.Tuple.tupleExact _) (wpAny_newObj_type (wpAny_pure ⟨_, rfl, wpAny_pure h⟩) hdrop))
end
def tRevT (K : PySem.W.Frag) (te : TE) : TE := fun σ H Q => te σ H fun x H1 => ∃ a y z, x = .ref a ∧ SqT K H1 a [y, z] ∧ ∀ p, H1 p = none → Q (.ref p) (upd H1 p (.tup [z, y]))
theorem pe_revT {X : Cx} {e : Expr} {te : TE} {k : Nat} {p1 p2 p3 pos : Pos} (he : PE X e te) : PE X (.Subscript e (.Slice none none (some (.UnaryOp .USub (.Constant (.int 1) k p1) p2)) p3) pos) (tRevT X.K te) := by
  refine ⟨fun pins s σ H Q I h => ?_⟩
  refine Subscript_ (thn (he.run pins s σ H _ I h) fun v s1 ⟨x, H1, I1, r1, q1⟩ => ?_)
  obtain ⟨a, y, z, ex, hx, q⟩ := q1
  subst ex
  cases r1
  have hst : PO X (some (.UnaryOp .USub (.Constant (.int 1) k p1) p2)) (tPart (tUn (rU fun i => .int (-i)) (tC (.int 1)))) := po_some (pe_un un_neg pe_int)
  refine wpAny_Slice (thn (po_none.run pins s1 σ H1 (fun o H2 => o = none ∧ H2 = H1) I1 ⟨rfl, rfl⟩) fun vl s2 ⟨l, H2, I2, pl, el, e2⟩ => ?_)
  subst el e2
  refine thn (po_none.run pins s2 σ H2 (fun o H3 => o = none ∧ H3 = H2) I2 ⟨rfl, rfl⟩) fun vu s3 ⟨u, H3, I3, pu, eu, e3⟩ => ?_
  subst eu e3
  refine thn (hst.run pins s3 σ H3 (fun o H4 => o = some (-1) ∧ H4 = H3) I3 ⟨1, rfl, -1, rfl, rfl, rfl⟩) fun vs s4 ⟨o, H4, I4, ps, eo, e4⟩ => ?_
  subst eo e4
  have I5 : Inv X pins σ H4 { s4 with heap := s4.heap.push { cls := .type "slice", data := .fields #[vl, vu, vs] } } := I4.kept (t' := s4.toks) fun b ob q => Heap.get?_push_of_some _ q
  obtain ⟨its, r, ht, hz⟩ := I5.tuple hx
  cases r with
  | cons ry r =>
    cases r with
    | cons rz r =>
      cases r
      cases pl
      cases pu
      cases ps
      show wpAny (model X.prog X.w) X.A (subscriptTail e (.Slice none none (some (.UnaryOp .USub (.Constant (.int 1) k p1) p2)) p3) (.ref a) (.ref s4.heap.objs.size)) (EP X pins σ Q) X.xe _
      refine tail_any (ops := [.ref a, .ref s4.heap.objs.size]) ht.typeIs slot_tuple_getitem.lookup ?_ (by with_unfolding_all rfl)
      refine getItem_tuple_rev ht (Heap.IsSliceOf.new _ _ _ _) ?_
      refine ⟨.ref _, _, I5.laid (t' := s4.toks) (o := .tup [z, y]) (fun b ob q => Heap.get?_push_of_some _ q) (Nat.le_refl _) ?_, rfl, q _ (I5.hok.fresh (Nat.le_refl _))⟩
      exact ⟨by show 2 ≤ sizeLine; decide, _, .cons rz (.cons ry .nil), _, Heap.get?_push_size _ rfl, rfl, _, rfl⟩
def opRev : D → Option D
  | .tup [x, y] => some (.tup [y, x])
  | _ => none
section
variable {X : Cx} {cl : Nat → Addr} {Z : ZK} {a b e : Expr} {ma mb : ME} {pos : Pos}
theorem de_rev (z : ZOk X.K cl Z) {k : Nat} {p1 p2 p3 : Pos} (ha : PE X e (wE X.K cl Z ma)) : PE X (.Subscript e (.Slice none none (some (.UnaryOp .USub (.Constant (.int 1) k p1) p2)) p3) pos) (wE X.K cl Z (mUn opRev ma)) :=
  (pe_revT ha).wk fun σ H Q ⟨ρ, O, r, g⟩ => wE_then z r g fun d ρ1 v H1 p1 g1 => by
    obtain ⟨d', e1, g2⟩ := Gd.lft g1
    have hv := p1.val
    simp only at e1
    unfold opRev at e1
    split at e1
    · cases e1
      simp only [Rp] at hv
      obtain ⟨q, vs, rfl, h1, h2⟩ := hv
      simp only [Rps] at h2
      obtain ⟨v1, r1, rfl, h3, v2, r2, rfl, h4, rfl⟩ := h2
      refine ⟨q, v1, v2, rfl, hide_seqT h1, fun t ht => g2 _ _ (p1.poT.lays (Ex.new ht) ?_)⟩
      simp only [Rp]
      exact ⟨t, _, rfl, .inl (.inl (new_seen (fun a ha => p1.po.rel.hid_some ha) ht)), Rps.cons (Rp.ex (new_ex ht) _ _ h4) (Rps.cons (Rp.ex (new_ex ht) _ _ h3) Rps.nil)⟩
    · cases e1
end
/-! ### a def that is reached by values alone -/
theorem fnR_of {P : Program} {w : World} {K : PySem.W.Frag} {mg : Str → Option Value} {base : Heap} {CX : CXT} {k : Nat} {f : Addr} {fd : FuncData} {ps : List Str} {sp : Sp} (G : FnOk P w K mg base CX k f fd ps sp) (b : L2.Binds K fd ps []) : FnR P w K mg base CX k f sp :=
  fun A outer s H us vs Q E hr e0 rv hs => by
    have hl := G.len vs H Q E hs
    have hb := b s us (e0.mod.kin.keeps fun b o h => (e0.bs b o h).1) (by rw [List.append_nil, ← rv.length]; exact hl)
    rw [List.append_nil] at hb
    exact G.run A outer s H ⟨us, []⟩ us vs Q E hr e0 hb rv hs
theorem sp_vals {K : PySem.W.Frag} {cl : Nat → Addr} {O : Addr → Prop} {ρ : Env} {σ : L2.St} {H : Hp} {ds : List D} {vs : List V} {F : ME} {y : D × Env} {Q : VK} {E : XK} {n : Nat} (r : Rel K cl O ρ σ H) (h : Rps K cl (vis O ρ σ H) ds vs) (hn : ds.length = n)
    (e : okR (F (ds.map .val)) = some y) (k : ∀ v H', PoE K cl O ρ σ H y.1 ρ v H' → Q v H') : spF K cl n F vs H Q E := by
  refine ⟨by rw [← h.length]; exact hn, ds.map .val, hid O ρ σ, rel_vals r h, ?_⟩
  rw [okR_some e]
  exact fun v H' p2 => k v H' (call_back r p2)
/-! ### properties -/
def gAd (K : PySem.W.Frag) (x f : Str) : Addr := match PySem.W.recIn K (He.ma K (He.ga K x) f) "property" with
  | some (.ref g :: _) => g
  | _ => 0
structure PropD where
  cls : Str
  f : Str
  name : Str
  qual : Str
  params : Arguments
  body : List Stmt
  scope : Scope
def fnAt (K : PySem.W.Frag) (a : Addr) : He.FnW := match K.lookup a with
  | some ⟨_, _, .func fd, _⟩ => some (fd.name, fd.qualname, fd.params, fd.body, fd.scope, fd.globals, fd.closure, fd.builtins)
  | _ => none
def PropD.val (d : PropD) : He.FnW := some (d.name, d.qual, d.params, .stmts d.body, d.scope, mainGlobals, [], builtinsNs)
def fnB (K : PySem.W.Frag) (g : Addr) (qual : Str) : Bool := PySem.W.keepIn K (.ref g) && (match K.lookup g with
  | some ⟨_, _, .func fd, _⟩ => PySem.W.codeIn K fd.code qual && (He.dflB K fd.defaults [] && He.kwdB K fd.kwdefaults [])
  | _ => false)
def propB (K : PySem.W.Frag) (x f qual : Str) : Bool :=
  He.eqO (PySem.W.findIn K (.ref (He.ga K x)) f) (some (some (.ref (He.ma K (He.ga K x) f)))) &&
    (He.eqO (PySem.W.specialIn K (.ref (He.ma K (He.ga K x) f)) "__get__") (some (some (.builtin "property.__get__"))) &&
      (decide (PySem.W.takesIn K (.ref (He.ma K (He.ga K x) f)) = some true) &&
        ((match PySem.W.recIn K (He.ma K (He.ga K x) f) "property" with | some (.ref _ :: _) => true | _ => false) && fnB K (gAd K x f) qual)))
structure Prop1 (K : PySem.W.Frag) (C : Addr) (f : Str) (p g : Addr) : Prop where
  at_ : PySem.W.findIn K (.ref C) f = some (some (.ref p))
  get : PySem.W.specialIn K (.ref p) "__get__" = some (some (.builtin "property.__get__"))
  tk : PySem.W.takesIn K (.ref p) = some true
  rc : ∃ rest, PySem.W.recIn K p "property" = some (Value.ref g :: rest)
theorem fun_at {K : PySem.W.Frag} {g : Addr} {d : PropD} (h : fnAt K g = d.val) (hb : fnB K g d.qual = true) : ∃ fd, FunD K d.name d.qual d.params d.body d.scope [] [] g fd := by
  unfold fnAt at h
  unfold fnB at hb
  split at h
  · rename_i oc od fd osl e
    rw [e] at hb
    simp only [Bool.and_eq_true] at hb
    obtain ⟨h1, h2, h3, h4⟩ := hb
    unfold PropD.val at h
    refine ⟨fd, ⟨?_, h1⟩⟩
    obtain ⟨nm, qn, pa, bo, sc, gl, clo, bi, code, dfl, kwd, doc, pm, an, ct⟩ := fd
    simp only [Option.some.injEq, Prod.mk.injEq] at h
    obtain ⟨rfl, rfl, rfl, rfl, rfl, rfl, rfl, rfl⟩ := h
    exact ⟨_, _, _, _, _, _, _, _, _, _, rfl, e, h2, He.dflB_ok h3, He.kwdB_ok h4⟩
  · cases h
end DF
namespace DF
open PySem PySem.Spec PyProof.Rows L2 Evl
/-! ### zip of a tuple and a list -/
def ItM (K : PySem.W.Frag) (a b : Addr) : It where
  go := fun i H => ∃ (xs ys : List V) (x y : V), (SqT K H a xs ∧ xs[i]? = some x) ∧ SqL K H b ys ∧ ys[i]? = some y
  yld := fun i H v H' => ∃ T x y, (v = .ref T ∧ H T = none ∧ H' = upd H T (.tup [x, y])) ∧ (∀ xs, SqT K H a xs → xs[i]? = some x) ∧ ∀ ys, SqL K H b ys → ys[i]? = some y
  stop := fun i H => ∃ xs ys : List V, (SqT K H a xs ∧ SqL K H b ys) ∧ i = min xs.length ys.length
/-- the five cells of such a zip -/
def cellsM (n : Nat) : List Addr := [n + 4, n + 2, n + 3, n, n + 1]
theorem cellsM_ge {n c : Nat} (h : c ∈ cellsM n) : n ≤ c ∧ c ≤ n + 4 := by
  simp only [cellsM, List.mem_cons, List.not_mem_nil, or_false] at h
  omega
structure StM (n a b i : Nat) (h : Heap) : Prop where
  zip : IsZip h (n + 4) (n + 2) (n + 3) .none
  ins : IsTupOf2 h (n + 2) (.ref n) (.ref (n + 1))
  out : ∃ x y, IsTupOf2 h (n + 3) x y
  one : h.IsTupleIter n a i
  two : h.IsListIter (n + 1) b i
theorem nna {x y : Nat} (h : x ≠ y) : (x : Addr) ≠ y := h
theorem sepM {n a b : Nat} (ha : a < n) (hb : b < n) : ZipSep2 (n + 4) (n + 2) (n + 3) n (n + 1) [n, a] [n + 1, b] := by
  refine ⟨nna (by omega), nna (by omega), nna (by omega), nna (by omega), List.mem_cons_self .., ?_, ?_, nna (by omega), List.mem_cons_self .., ?_, ?_, ?_, ?_⟩ <;>
    (simp only [List.mem_cons, List.not_mem_nil, or_false, not_or]; exact ⟨nna (by omega), nna (by omega)⟩)
theorem lt_cells {X : Cx} {pins : List (Addr × Obj)} {H : Hp} {n a b i : Nat} {h : Heap} (st : StM n a b i h) : n + 4 < h.objs.size ∧ n + 2 < h.objs.size ∧ n + 3 < h.objs.size ∧ n < h.objs.size ∧ n + 1 < h.objs.size := by
  obtain ⟨_, _, e3⟩ := st.out
  obtain ⟨_, e4, _⟩ := st.one
  obtain ⟨_, e5, _⟩ := st.two
  exact ⟨Heap.lt_size st.zip, Heap.lt_size st.ins, Heap.lt_size e3, Heap.lt_size e4, Heap.lt_size e5⟩
theorem turnM {P : Program} {w : World} {K : PySem.W.Frag} {elts : List Expr} {kk : Nat} {tp : Pos} {n a b : Nat} (ha : a < n) (hb : b < n) : Turn P w K (.Tuple elts kk tp) (ItM K a b) (cellsM n) (n + 4) (StM n a b) where
  mem := List.mem_cons_self ..
  obj := by
    intro i h st c hc
    obtain ⟨x, y, e3⟩ := st.out
    obtain ⟨o4, e4, _, f4⟩ := st.one
    obtain ⟨o5, e5, _, f5⟩ := st.two
    simp only [cellsM, List.mem_cons, List.not_mem_nil, or_false] at hc
    rcases hc with z | z | z | z | z
    · subst z; exact ⟨_, st.zip, fun _ z => nomatch z⟩
    · subst z; exact ⟨_, st.ins, fun _ z => nomatch z⟩
    · subst z; exact ⟨_, e3, fun _ z => nomatch z⟩
    · subst z; exact ⟨o4, e4, fun _ z => (by rw [f4] at z; cases z)⟩
    · subst z; exact ⟨o5, e5, fun _ z => (by rw [f5] at z; cases z)⟩
  keep := by
    intro i h h' st k
    obtain ⟨x, y, e3⟩ := st.out
    have m : ∀ c, c ∈ cellsM n → ∀ o, h.get? c = some o → h'.get? c = some o := k
    exact ⟨m _ (by simp [cellsM]) _ st.zip, m _ (by simp [cellsM]) _ st.ins, ⟨x, y, m _ (by simp [cellsM]) _ e3⟩, st.one.at (m n (by simp [cellsM])), st.two.at (m (n + 1) (by simp [cellsM]))⟩
  item := by
    intro X eP ew eK hc i pins s σ H E I fp st g
    subst eP ew eK
    obtain ⟨xs, ys, x, y, ⟨qx, gx⟩, qy, gy⟩ := g
    obtain ⟨us, ru, tu, _⟩ := I.tuple qx
    obtain ⟨vs, rv, lv, _⟩ := I.list qy
    obtain ⟨u, eu, xu⟩ := ru.get gx
    obtain ⟨v, ev', yv⟩ := rv.get gy
    have hh : X.A.in1.handled = none := I.ok.hd hc
    have D1 := Draws.tuple (prog := X.prog) (w := X.w) (A := X.A.in1) hh n a (nna (by omega)) us.toArray
    have D2 := Draws.list (prog := X.prog) (w := X.w) (A := X.A.in1) hh (n + 1) b (nna (by omega)) vs.toArray
    obtain ⟨c1, c2, c3, c4, c5⟩ := lt_cells (X := X) (pins := pins) (H := H) st
    obtain ⟨p1, p2, e3⟩ := st.out
    have hu : i < us.toArray.size := by simpa using (List.getElem?_eq_some_iff.mp eu).1
    have hv : i < vs.toArray.size := by simpa using (List.getElem?_eq_some_iff.mp ev').1
    refine wpAny_pyNext_zipD2_item (sepM ha hb) D1 D2 st.zip st.ins e3 ⟨st.one, tu⟩ ⟨st.two, lv.isList⟩ hu hv ?_
    intro w1 w2 h1 tk k1 k2 z1 t1 s1 s2 nt _ keep
    have q1 : w1 = u := by have := k1.symm.trans (by simpa using eu); exact Option.some.inj this
    have q2 : w2 = v := by have := k2.symm.trans (by simpa using ev'); exact Option.some.inj this
    subst q1 q2
    refine ⟨_, rfl, ?_⟩
    refine wpAny_letOwnedTupleGo_zip (s := { s with heap := h1, toks := tk }) z1 ?_
    intro h2 z2 sb
    have off : ∀ c, c ≠ n + 4 → ∀ o, h1.get? c = some o → h2.get? c = some o := fun c hc o e => (sb.2 c hc).trans e
    have same : ∀ c o, c ∉ cellsM n → s.heap.get? c = some o → h2.get? c = some o := by
      intro c o hn e
      have d : c ≠ n + 4 ∧ c ≠ n + 2 ∧ c ≠ n + 3 ∧ c ≠ n ∧ c ≠ n + 1 := by simpa [cellsM] using hn
      exact off c d.1 o (keep c o d.1 d.2.2.1 d.2.2.2.1 d.2.2.2.2 e)
    have lay : ObjOk X.prog X.w (upd H s.heap.objs.size (.tup [x, y])) h2 s.heap.objs.size (.tup [x, y]) := by
      refine ⟨by show 2 ≤ sizeLine; decide, [w1, w2], .cons xu (.cons yv .nil), ⟨_, off _ (nna (by omega)) _ nt, rfl, _, rfl⟩⟩
    have I1 := I.turnedNew (t' := tk) (ch := cellsM n) same fp (Nat.le_refl _) lay
    refine ⟨.ref s.heap.objs.size, _, I1, rfl, ⟨_, x, y, ⟨rfl, I.hok.fresh (Nat.le_refl _), rfl⟩, fun l hl => ?_, fun l hl => ?_⟩, ⟨z2, ?_, ⟨w1, w2, ?_⟩, ?_, ?_⟩, ?_⟩
    · rw [I.tuple_inj hl qx]; exact gx
    · rw [I.list_inj hl qy]; exact gy
    · exact off _ (nna (by omega)) _ (keep _ _ (nna (by omega)) (nna (by omega)) (nna (by omega)) (nna (by omega)) st.ins)
    · exact off _ (nna (by omega)) _ t1
    · exact s1.1.at fun o e => off n (nna (by omega)) o e
    · exact s2.1.at fun o e => off (n + 1) (nna (by omega)) o e
    · intro c hcm
      have hge := cellsM_ge hcm
      have : c ≠ s.heap.objs.size := nna (by omega)
      rw [upd_ne this]
      exact (fp c hcm).1
  done := by
    intro X eP ew eK hc i pins s σ H E I fp st g
    subst eP ew eK
    obtain ⟨xs, ys, ⟨qx, qy⟩, hend⟩ := g
    obtain ⟨us, ru, tu, _⟩ := I.tuple qx
    obtain ⟨vs, rv, lv, _⟩ := I.list qy
    have hh : X.A.in1.handled = none := I.ok.hd hc
    obtain ⟨p1, p2, e3⟩ := st.out
    have D1 := Draws.tuple (prog := X.prog) (w := X.w) (A := X.A.in1) hh n a (nna (by omega)) us.toArray
    have D2 := Draws.list (prog := X.prog) (w := X.w) (A := X.A.in1) hh (n + 1) b (nna (by omega)) vs.toArray
    have l1 := ru.length
    have l2 := rv.length
    have z1 : us.toArray.size = xs.length := by rw [List.size_toArray]; exact l1.symm
    have z2 : vs.toArray.size = ys.length := by rw [List.size_toArray]; exact l2.symm
    refine wpAny_pyNext_zipD2_end (sepM ha hb) D1 D2 st.zip st.ins e3 ⟨st.one, tu⟩ ⟨st.two, lv.isList⟩ (by omega) (by omega) (by omega) ?_
    intro h' tk k
    exact ⟨rfl, I.turnedL (t' := tk) (ch := cellsM n) (fun c o hn e => by
      have d : c ≠ n + 4 ∧ c ≠ n + 2 ∧ c ≠ n + 3 ∧ c ≠ n ∧ c ≠ n + 1 := by simpa [cellsM] using hn
      exact k c o d.1 d.2.2.1 d.2.2.2.1 d.2.2.2.2 e) fp⟩
  self := fun A i s Q E st h => wpAny_pyIter_zip st.zip h
/-- zip of two lists, two tuples, a tuple and a list -/
def iZip3 (K : PySem.W.Frag) (ta : TA) : TI := fun σ H R => ta σ H fun vs H1 => ∃ (a b : Addr) (xs ys : List V), vs = [.ref a, .ref b] ∧
  ((SqL K H1 a xs ∧ SqL K H1 b ys ∧ R (Itz K a b) H1) ∨ (SqT K H1 a xs ∧ SqT K H1 b ys ∧ R (RZ.ItzT K a b) H1) ∨ (SqT K H1 a xs ∧ SqL K H1 b ys ∧ R (ItM K a b) H1))
theorem fpM {X : Cx} {pins : List (Addr × Obj)} {σ : L2.St} {H : Hp} {s : Shared} (I : Inv X pins σ H s) : ∀ c ∈ cellsM s.heap.objs.size, FpOk X pins H c := fun c hc =>
  I.fpOk (cellsM_ge hc).1 (I.hok.fresh (cellsM_ge hc).1)
section
variable {X : Cx} {e e2 : Expr} {ta : TA} {p pos tp : Pos} {elts : List Expr} {kk : Nat}
theorem pi_zip3 (hg : Gl X "zip") (hm : X.mg "zip" = none) (ha : PA X [e, e2] ta) (hs : starEach [e, e2] X.env = (false, eval e X.env) :: starEach [e2] X.env := by rfl)
    (hpl : (backTo pos (starEach [e2] X.env)).any (·.1) = false := by rfl) : PI X (.Tuple elts kk tp) (.Call (.Name "zip" p) [e, e2] [] pos) (iZip3 X.K ta) := by
  constructor
  intro pins s σ H R I h
  have args := ha.run pos pins s σ H _ I h
  refine Call_ (ld_blt I hg hm PyProof.Rows.boot_zip (PyProof.Rows.callWith_type1 (thn args ?_) hs hpl))
  rintro us s1 ⟨vs, H1, I1, rv, a, b, xs, ys, rfl, q⟩
  obtain ⟨u1, r1, rfl, ra, rv⟩ : ∃ u1 r1, us = u1 :: r1 ∧ RelV (.ref a) u1 ∧ Vals [.ref b] r1 := by cases rv with | cons x y => exact ⟨_, _, rfl, x, y⟩
  obtain ⟨u2, rfl, rb⟩ : ∃ u2, r1 = [u2] ∧ RelV (.ref b) u2 := by cases rv with | cons x y => cases y; exact ⟨_, rfl, x⟩
  cases ra
  cases rb
  have fp := fpM I1
  rcases q with ⟨qa, qb, q⟩ | ⟨qa, qb, q⟩ | ⟨qa, qb, q⟩
  · obtain ⟨is, _, pa, _⟩ := I1.list qa
    obtain ⟨js, _, pb, _⟩ := I1.list qb
    refine call_zip_2 pa.isList pb.isList fun h' z t1 t2 c1 c2 _ k => wpAny_pyIter_zip z ⟨_, cellsM s1.heap.objs.size, _, Itz X.K a b, H1, rfl, I1.kept (t' := s1.toks) k, turn_zip (PySem.W.ktu_apart _ a b pa.lt pb.lt), ⟨z, t1, ⟨_, _, t2⟩, c1, c2⟩, fp, q⟩
  · obtain ⟨is, _, pa, _⟩ := I1.tuple qa
    obtain ⟨js, _, pb, _⟩ := I1.tuple qb
    obtain ⟨oa, ea, _⟩ := id pa
    obtain ⟨ob, eb, _⟩ := id pb
    refine RZ.call_zipT pa pb fun h' z t1 t2 c1 c2 _ k => wpAny_pyIter_zip z ⟨_, cellsM s1.heap.objs.size, _, RZ.ItzT X.K a b, H1, rfl, I1.kept (t' := s1.toks) k, RZ.turn_zipT (PySem.W.ktu_apart _ a b (Heap.lt_size ea) (Heap.lt_size eb)), ⟨z, t1, ⟨_, _, t2⟩, c1, c2⟩, fp, q⟩
  · obtain ⟨is, _, pa, _⟩ := I1.tuple qa
    obtain ⟨js, _, pb, _⟩ := I1.list qb
    obtain ⟨oa, ea, _⟩ := id pa
    refine zip_begins2 (begins_tuple a is.toArray) (begins_list b js.toArray) pa pb.isList fun h' z t1 t2 c1 c2 _ k => wpAny_pyIter_zip z ⟨_, cellsM s1.heap.objs.size, StM s1.heap.objs.size a b, ItM X.K a b, H1, rfl, I1.kept (t' := s1.toks) k, turnM (Heap.lt_size ea) pb.lt, ⟨z, t1, ⟨_, _, t2⟩, ⟨_, c1, rfl, rfl⟩, ⟨_, c2, rfl, rfl⟩⟩, fp, q⟩
variable {cl : Nat → Addr} {Z : ZK} {a b : Expr} {mr : MA}
theorem wk_zipM {K : PySem.W.Frag} {B : Hp} {a b : Addr} {ds es : List D} {vs ws : List V} (h : SqT K B a vs) (r : Rps K cl B ds vs) (h' : B b = some (.lst ws)) (r' : Rps K cl B es ws) : Wk K cl B (ItM K a b) (zipD ds es) where
  step := fun P H hP ex i d hd => by
    obtain ⟨d1, d2, hd1, hd2, rfl⟩ := zipD_get hd
    obtain ⟨v, e1, e2⟩ := r.get hd1
    obtain ⟨w, e3, e4⟩ := r'.get hd2
    have hq : SqT K H a vs := hide_seqT (ex_t ex h)
    have hq' : SqL K H b ws := SqL.of (hide_at (ex b _ h'))
    refine ⟨⟨vs, ws, v, w, ⟨hq, e1⟩, hq', e3⟩, fun x H' ⟨T, y, y', ⟨hx, hT, hH⟩, hy, hy'⟩ => ?_⟩
    subst hH
    subst hx
    have t1 := hy vs hq
    rw [e1] at t1; cases t1
    have t2 := hy' ws hq'
    rw [e3] at t2; cases t2
    refine ⟨Ex.new hT, ?_⟩
    simp only [Rp]
    exact ⟨T, _, rfl, .inl (.inl (new_seen hP hT)), Rps.cons (Rp.ex (Ex.trans ex (new_ex hT)) _ _ e2) (Rps.cons (Rp.ex (Ex.trans ex (new_ex hT)) _ _ e4) Rps.nil)⟩
  stop := fun P H ex => ⟨vs, ws, ⟨hide_seqT (ex_t ex h), SqL.of (hide_at (ex b _ h'))⟩, by rw [zipD_len, r.length, r'.length]⟩
def fZip3 : List D → Option (List D)
  | [.lst ds, .lst es] => some (zipD ds es)
  | [.tup ds, .tup es] => some (zipD ds es)
  | [.tup ds, .lst es] => some (zipD ds es)
  | _ => none
theorem di_zip3 {tpos : Pos} (z : ZOk X.K cl Z) (hg : Gl X "zip") (hm : X.mg "zip" = none) (ha : PA X [a, b] (wA X.K cl Z mr)) (hs : starEach [a, b] X.env = (false, eval a X.env) :: starEach [b] X.env := by rfl)
    (hpl : (backTo pos (starEach [b] X.env)).any (·.1) = false := by rfl) : PI X (.Tuple elts kk tpos) (.Call (.Name "zip" p) [a, b] [] pos) (wI X.K cl Z (mIt fZip3 mr)) :=
  (pi_zip3 hg hm ha hs hpl).wk fun σ H R ⟨ρ, O, r, g⟩ => wA_then z r g fun ds ρ1 vs H1 p g1 => by
    obtain ⟨ds', e, g2⟩ := Gd.lft g1
    simp only at e
    unfold fZip3 at e
    split at e
    · cases e
      obtain ⟨v, w, rfl, h1, h2⟩ := rps2 p.val
      simp only [Rp] at h1 h2
      obtain ⟨a, ws, rfl, h3, h4⟩ := h1
      obtain ⟨b, us, rfl, h5, h6⟩ := h2
      exact ⟨a, b, ws, us, rfl, .inl ⟨SqL.of (hide_at h3), SqL.of (hide_at h5), g2 _ H1 p.poT (wk_zip h3 h4 h5 h6)⟩⟩
    · cases e
      obtain ⟨v, w, rfl, h1, h2⟩ := rps2 p.val
      simp only [Rp] at h1 h2
      obtain ⟨a, ws, rfl, h3, h4⟩ := h1
      obtain ⟨b, us, rfl, h5, h6⟩ := h2
      exact ⟨a, b, ws, us, rfl, .inr (.inl ⟨hide_seqT h3, hide_seqT h5, g2 _ H1 p.poT (wk_zipT h3 h4 h5 h6)⟩)⟩
    · cases e
      obtain ⟨v, w, rfl, h1, h2⟩ := rps2 p.val
      simp only [Rp] at h1 h2
      obtain ⟨a, ws, rfl, h3, h4⟩ := h1
      obtain ⟨b, us, rfl, h5, h6⟩ := h2
      exact ⟨a, b, ws, us, rfl, .inr (.inr ⟨hide_seqT h3, SqL.of (hide_at h5), g2 _ H1 p.poT (wk_zipM h3 h4 h5 h6)⟩)⟩
    · cases e
end
end DF
namespace DF
open PySem PySem.Spec PyProof.Rows L2 Evl
/-! ### the head, seen by a shorter list of addresses; properties -/
def refsAt (g : Addr → Option Obj) (a : Addr) : List Addr := match g a with
  | some o => He.refsD o
  | none => []
def isClsAt (g : Addr → Option Obj) (a : Addr) : Bool := match g a with
  | some ⟨_, _, .cls _, _⟩ => true
  | _ => false
def offTop (as : List Addr) : List Addr := as.filter fun a => !(a == mainGlobals || a == builtinsNs)
def lev (g : Addr → Option Obj) (as : List Addr) : List Addr := offTop (as.flatMap (refsAt g))
def asC (g : Addr → Option Obj) : List Addr :=
  let l1 := lev g [mainGlobals]
  let n2 := lev g (l1.filter (isClsAt g))
  let n3 := lev g n2
  let n4 := lev g n3
  mainGlobals :: (l1 ++ (lev g l1 ++ (n3 ++ (n4 ++ lev g n4))))
def obsP (fa : List He.Fa) (fn : List He.DefD) (ex : PySem.W.Frag → Bool) (ps : List PropD) (g : Addr → Option Obj) : He.AlX × List He.FnW :=
  ((He.obsT fa fn [] (He.frT g (asC g)), ex (He.frT g (asC g))), ps.map fun q => fnAt (He.frT g (asC g)) (gAd (He.frT g (asC g)) q.cls q.f))
def valP (fn : List He.DefD) (ps : List PropD) (w : World) : He.AlX × List He.FnW := (He.valX fn [] w, ps.map PropD.val)
def saysP (fa : List He.Fa) (fn : List He.DefD) (ex : PySem.W.Frag → Bool) (ps : List PropD) (w : World) (h : Heap) (K : PySem.W.Frag) : Prop :=
  He.SaysX fa fn [] [] ex w h K ∧ (ps.map fun q => fnAt K (gAd K q.cls q.f)) = ps.map PropD.val
def hookP (fa : List He.Fa) (fn : List He.DefD) (ex : PySem.W.Frag → Bool) (ps : List PropD) : PySem.W.Hook where
  α := He.AlX × List He.FnW
  obs s := obsP fa fn ex ps s.heap.get?
  val w := valP fn ps w
  says w h := ∃ K, K.In h ∧ saysP fa fn ex ps w h K
  of w s e := ⟨He.frT s.heap.get? (asC s.heap.get?), He.frT_in, ⟨⟨congrArg (fun z : He.AlX × List He.FnW => z.1.1) e, congrArg (fun z : He.AlX × List He.FnW => z.1.2) e, fun p hp => by simp at hp, fun p hp => by simp at hp, fun p hp => by simp at hp⟩, congrArg (fun z : He.AlX × List He.FnW => z.2) e⟩⟩
  keeps w h h' q k := by
    obtain ⟨K, hK, c, e⟩ := q
    exact ⟨K, hK.keeps k, ⟨⟨c.t, c.more, c.hd, c.out, fun p hp => by simp at hp⟩, e⟩⟩
theorem obsP_eq {fa : List He.Fa} {fn : List He.DefD} {ex : PySem.W.Frag → Bool} {ps : List PropD} {g : Addr → Option Obj} {s : Shared} (h : ∀ a, g a = s.heap.get? a) : obsP fa fn ex ps g = (hookP fa fn ex ps).obs s := by
  have e := funext h
  rw [e]
  rfl
theorem map_get {α β : Type} {f h : α → β} : ∀ {l : List α} {i : Nat} {a : α}, l.map f = l.map h → l[i]? = some a → f a = h a
  | [], i, a, _, e => by simp at e
  | b :: l, 0, a, q, e => by
    simp at e; subst e
    exact (List.cons.inj q).1
  | b :: l, i + 1, a, q, e => map_get (List.cons.inj q).2 (by simpa using e)
def PropFact (K : PySem.W.Frag) (C : Addr) (f nm qual : Str) (st : Stmt) : Prop := ∃ p g fd, Prop1 K C f p g ∧ FunD K nm qual (defArgs st) (defBody st) (defScope st) [] [] g fd
theorem prop_of {ps : List PropD} {K : PySem.W.Frag} (e : (ps.map fun q => fnAt K (gAd K q.cls q.f)) = ps.map PropD.val) (i : Nat) {C f nm qual : Str} {st : Stmt} (hi : ps[i]? = some ⟨C, f, nm, qual, defArgs st, defBody st, defScope st⟩) (hb : propB K C f qual = true) : PropFact K (He.ga K C) f nm qual st := by
  have h1 := map_get e hi
  unfold propB at hb
  simp only [Bool.and_eq_true] at hb
  obtain ⟨h2, h3, h4, h5, h6⟩ := hb
  obtain ⟨fd, F⟩ := fun_at (d := ⟨C, f, nm, qual, defArgs st, defBody st, defScope st⟩) h1 h6
  refine ⟨He.ma K (He.ga K C) f, gAd K C f, fd, ⟨He.eqO_ok h2, He.eqO_ok h3, of_decide_eq_true h4, ?_⟩, F⟩
  unfold gAd
  split at h5
  · rename_i a r e1
    rw [e1]
    exact ⟨r, rfl⟩
  · cases h5
/-- reading a property of an instance with slots -/
theorem pe_propSl {X : Cx} {CX : CXT} {e : Expr} {f : Str} {pos : Pos} {ta : TE} {C p g : Addr} {n : Nat} {sp : Sp} {E : XK} (he : PE X e ta) (c : SlX.SCls X.K C) (P1 : Prop1 X.K C f p g) (G : FnR X.prog X.w X.K X.mg X.base CX n g sp) (hr : Room (n + 1) X.A)
    (hx : ∀ (H : Hp) (s : Shared) (e : Value) (s' : Shared), CX X.stack H s E e s' → False) (hb : attributeBase e f X.env (eval e X.env) = eval e X.env) : PE X (.Attribute e f pos) (SlX.tPropSl C sp E ta) := by
  refine ⟨fun pins s σ H Q I h => attr_of hb (thn (he.run pins s σ H _ I h) fun w s1 ⟨x, H1, I1, rx, a, dx, vs, ex, hs, q⟩ => ?_)⟩
  subst ex
  obtain rfl : w = Value.ref a := rx
  obtain ⟨_, _, _, J, _⟩ := SlX.slt_inst I1 hs
  obtain ⟨rest, hrec⟩ := P1.rc
  have J1 := I1.tok (s1.toks + 1)
  have pg := PySem.W.plainGet_of (c.get f)
  have run := G X.A.in1 X.stack { s1 with toks := s1.toks + 1 } H1 [.ref a] [.ref a] Q E hr.in1 J1.env0.in1 (.cons rfl .nil) q
  refine PySem.W.get_bind I1.kIn J pg.1 (PySem.W.findObj_data c.ic P1.at_ P1.get P1.tk) pg.2 (wpAny_call (PySem.W.prop_get (s := { s1 with toks := s1.toks + 1 }) I1.kIn hrec (codeAny_mono run fun r s' z => ?_)))
  rcases r with e | fl
  · exact (hx _ _ _ _ z).elim
  · cases fl
    all_goals first | exact z.elim | skip
    obtain ⟨v, H', I2, rv, q⟩ := J1.after z
    exact wpAny_of_eq (PySem.W.handedOut_of (handed_of rv)) ⟨v, H', I2, rv, q⟩
/-- a property of an own class, ready to be read -/
def OkProp (P : Program) (w : World) (K : PySem.W.Frag) (cl : Nat → Addr) (mg : Str → Option Value) (base : Heap) (k : Nat) (C : Addr) (f : Str) (F : ME) : Prop :=
  ∃ p g, Prop1 K C f p g ∧ FnR P w K mg base CX0 k g (spF K cl 1 F)
theorem ok_prop {P : Program} {w : World} {K : PySem.W.Frag} {cl : Nat → Addr} {mg : Str → Option Value} {base : Heap} {C : Addr} {f nm qual : Str} {st : Stmt} {N : List Str} {k : Nat} {m : MS} (F : PropFact K C f nm qual st) (S : FnScope N ["self"] (defScope st))
    (hb : ∀ (kV doc pm : Value) (an : Option Addr) (cdv ct : Value) (us : List Value), us.length = 1 → bindArgs (PySem.W.fnOf nm qual (defArgs st) (defBody st) (defScope st) .none kV doc pm an cdv ct) ⟨us, []⟩ = pure ((["self"] : List Str).zip us))
    (hbody : ∀ (g : Addr) (cdv : Value) (A : Around) (outer : List PySem.Env) (s : Shared) (H : Hp) (E : XK), Room k (A.deeper (PyProof.Rows.envOfC qual (defScope st) s.heap.objs.size g cdv)) →
      PSs (cxOf CX0 P w K mg base N qual (defScope st) g cdv A outer s H E).nox (defBody st) (wS K cl Z0 m)) : OkProp P w K cl mg base (k + 1) C f (mFun N.length m) := by
  obtain ⟨p, g, fd, P1, F⟩ := F
  exact ⟨p, g, P1, fnR_of (df_fun (FunD.plain F) S (hbody g)) (F.bindsN hb)⟩
def mProp (c : Nat) (F : ME) (ma : ME) : ME := fun ρ => (ma ρ).bind fun x => match x.1 with
  | .obj c' fs => if c' = c then (lft (okR (F [.val (.obj c' fs)]))).bind fun y => .ok (y.1, x.2) else .bad
  | _ => .bad
theorem de_prop {X : Cx} {cl : Nat → Addr} {k j c : Nat} {f : Str} {F ma : ME} {e : Expr} {pos : Pos} (hc : SlX.SCls X.K (cl c)) (h : OkProp X.prog X.w X.K cl X.mg X.base k (cl c) f F) (hr : Room j X.A) (hk : k + 1 ≤ j) (ha : PE X e (wE X.K cl Z0 ma)) (hb : attributeBase e f X.env (eval e X.env) = eval e X.env := by rfl) :
    PE X (.Attribute e f pos) (wE X.K cl Z0 (mProp c F ma)) := by
  obtain ⟨p, g, P1, G⟩ := h
  refine (pe_propSl (E := E0) ha hc P1 G (hr.mono hk) (fun _ _ _ _ z => z) hb).wk fun σ H Q ⟨ρ, O, r, q⟩ => wE_then Z0.ok r q fun d ρ1 v H1 p1 q1 => ?_
  have hv := p1.val
  simp only at q1
  split at q1
  · rename_i c' fs
    split at q1
    · rename_i hcc
      subst hcc
      obtain ⟨y, ey, q2⟩ := Gd.lft q1
      have hv0 := hv
      simp only [Rp] at hv
      obtain ⟨a, dx, vs, rfl, h1, h2⟩ := hv
      refine ⟨a, dx, _, rfl, slt_ex (hide_ex H1 _) h1, sp_vals (ds := [.obj c' fs]) p1.po.rel (Rps.cons hv0 Rps.nil) rfl ey fun v' H' pe => q2 v' H' ?_⟩
      exact ⟨p1.po.trans pe.po, fun i => (p1.sh i).trans (pe.sh i), pe.val⟩
    · exact q1.elim
  · exact q1.elim
end DF
namespace DF
open PySem PySem.Spec PyProof.Rows L2 Evl PySem.W
/-! ### != of instances whose class tells == alone -/
/-- what is known of such a class -/
structure EqCls (K : PySem.W.Frag) (C g : Addr) : Prop where
  ne : findIn K (.ref C) "__ne__" = some (some (.builtin "object.__ne__"))
  eq : findIn K (.ref C) "__eq__" = some (some (.ref g))
  fn : isFn K (.ref g) = true
  sub : subIn K (.ref C) (.type "object") = some true
section
variable {prog : Program} {w : World} {A : Around} {E : Value → Shared → Prop} {s : Shared} {K : PySem.W.Frag} {x C g : Addr} {ox : Obj} {od : Option Obj} {b tb : Value}
theorem ne_look {Q : Unit → Shared → Prop} (X : K.In s.heap) (I : InstAt s.heap x ox C od) (c : EqCls K C g) (hq : Q () s) : wpAny (model prog w) A (checkBuiltinCall "object.__ne__" ⟨[.ref x, b], []⟩) Q E s := by
  have ok := F.cmpArgs_ne (.ref x) b
  simp only [checkBuiltinCall, F.cmpKind_ne, F.cmpSplit_ne]
  refine wpAny_bind ?_
  unfold isInstance
  refine wpAny_bind (I.type.here ((looks_subIn X c.sub).here ?_))
  cases sg : Manifest.signature? "object.__ne__" with
  | none => exact wpAny_pure hq
  | some z =>
    simp only [argsOk, sg] at ok
    have e : Bind.checkArgs "object.__ne__" z ⟨[.ref x, b], []⟩ = pure () := ok
    show wpAny _ A (Bind.checkArgs "object.__ne__" z ⟨[.ref x, b], []⟩) Q E _
    rw [e]
    exact wpAny_pure hq
theorem ne_entry {Q : Fin → Shared → Prop} (X : K.In s.heap) (I : InstAt s.heap x ox C od) (c : EqCls K C g) (hu : A.units < cLine)
    (h : wpAny (model prog w) A (call (.ref g) [.ref x, b]) (fun v s' => ∃ t, v = .bool t ∧ Q (.done (.ret (.bool (!t)))) s') E s) : wpAny (model prog w) A (Builtin.«object.__ne__» ⟨[.ref x, b], []⟩) Q E s := by
  unfold Builtin.«object.__ne__»
  repeat (first
    | with_reducible refine wpAny_cRoomFor hu ?_
    | (refine wpAny_bind (m := callSpecialIfBound? (.ref x) (Str.ofString "__eq__") [b]) (ifBound_K X I c.eq c.fn (wpAny_mono h (fun r s' hr => ?_) fun _ _ z => z))
       obtain ⟨t, rfl, q⟩ := hr
       repeat (first | exact q | exact wpAny_pure q | exact wpAny_truthy_bool q | (refine wpAny_bind (m := truthy (.bool _)) (wpAny_truthy_bool ?_)) | wp_step))
    | wp_step)
theorem ne_bound {Q : Option Value → Shared → Prop} (X : K.In s.heap) (I : InstAt s.heap x ox C od) (c : EqCls K C g) (h : wpAny (model prog w) A (call (.builtin "object.__ne__") [.ref x, b]) (fun v => Q (some v)) E s) :
    wpAny (model prog w) A (callSpecialIfBound? (.ref x) "__ne__" [b]) Q E s := by
  simp only [callSpecialIfBound?, bindSpecialIfBound?]
  refine wpAny_holding (wpAny_bind (wpAny_bind (wpAny_bind (I.type.here ((looks_findIn X c.ne).here ?_)))))
  simp only [F.cmp_object.ne.bind]
  refine wpAny_bind (wpAny_askSetting (wpAny_ite ?_))
  have fin : wpAny (model prog w) A (call (.builtin "object.__ne__") ([.ref x] ++ [b]) >>= fun v => pure (some v)) Q E s := wpAny_bind (wpAny_mono h (fun v s' z => wpAny_pure z) fun _ _ z => z)
  split
  · exact wpAny_bind (wpAny_pure (wpAny_pure (by exact fin)))
  · exact wpAny_tryCatch (wpAny_bind (wpAny_pure (wpAny_pure (by exact fin))))
theorem ne_try {Q : Value → Shared → Prop} (X : K.In s.heap) (I : InstAt s.heap x ox C od) (c : EqCls K C g) (hu : A.units + 1 < cLine)
    (h : wpAny (model prog w) A.in1 (call (.ref g) [.ref x, b]) (fun v s' => ∃ t, v = .bool t ∧ Q (.bool (!t)) s') E s) : wpAny (model prog w) A (tryCompare (.ref x) "__ne__" b) (fun r s' => ∃ v, r = some v ∧ Q v s') E s := by
  have S := F.cmp_object.ne
  unfold tryCompare
  refine wpAny_bind (ne_bound X I c (wpAny_call (codeAny_call_builtin S.plain F.cmpEntry_ne (ne_look (A := A.in1) X I c (ne_entry (A := A.in1) X I c hu (wpAny_mono h (fun v s' hv => ?_) fun _ _ z => z))))))
  obtain ⟨t, rfl, q⟩ := hv
  first | exact ⟨t, rfl, _, rfl, wpAny_pure ⟨_, rfl, q⟩⟩ | exact ⟨t, rfl, wpAny_pure ⟨_, rfl, q⟩⟩ | exact ⟨t, rfl, wpAny_pure (wpAny_pure ⟨_, rfl, q⟩)⟩
theorem ne_cmp {Q : Value → Shared → Prop} (X : K.In s.heap) (I : InstAt s.heap x ox C od) (c : EqCls K C g) (hu : A.units + 1 < cLine) (hb : Looks (model prog w) s.heap (typeOf b) (.ref C))
    (h : wpAny (model prog w) A.in1 (call (.ref g) [.ref x, b]) (fun v s' => ∃ t, v = .bool t ∧ Q (.bool (!t)) s') E s) : wpAny (model prog w) A (compareOp .NotEq (.ref x) b) Q E s := by
  unfold compareOp richCompare
  simp only [oneThing_ref]
  refine wpAny_holding (wpAny_bind (wpAny_cRoomFor (Nat.lt_of_succ_lt hu) ?_))
  refine wpAny_bind (I.type.here (wpAny_bind (hb.here ?_)))
  have e : (Value.ref C != Value.ref C) = false := by simp
  simp only [e, Bool.false_eq_true, if_false]
  refine wpAny_bind (wpAny_pure ?_)
  simp only [Bool.false_eq_true, if_false]
  refine wpAny_bind (wpAny_mono (ne_try X I c hu h) (fun r s' z => ?_) fun _ _ z => z)
  obtain ⟨v, rfl, q⟩ := z
  exact wpAny_pure q
end
/-- == and != of two objects of one such class -/
def OkEq (P : Program) (w : World) (K : PySem.W.Frag) (cl : Nat → Addr) (mg : Str → Option Value) (base : Heap) (k : Nat) (C : Addr) (F : ME) : Prop :=
  ∃ g, EqCls K C g ∧ FnR P w K mg base CX0 k g (spF K cl 2 F)
def ownEq (c : Nat) (F : ME) (a b : D) : Option D := match a, b with
  | .obj c1 fs, .obj c2 gs => if c1 = c ∧ c2 = c then (match okR (F [.val (.obj c1 fs), .val (.obj c2 gs)]) with
    | some (.bl t, _) => some (.bl t)
    | _ => none) else none
  | _, _ => none
def ownNe (c : Nat) (F : ME) (a b : D) : Option D := match ownEq c F a b with
  | some (.bl t) => some (.bl (!t))
  | _ => none
theorem ownEq_some {c : Nat} {F : ME} {a b d : D} (h : ownEq c F a b = some d) : ∃ fs gs t ρ, a = .obj c fs ∧ b = .obj c gs ∧ okR (F [.val (.obj c fs), .val (.obj c gs)]) = some (.bl t, ρ) ∧ d = .bl t := by
  unfold ownEq at h
  split at h
  · split at h
    · rename_i hc
      obtain ⟨rfl, rfl⟩ := hc
      split at h
      · rename_i t ρ e
        cases h
        exact ⟨_, _, t, ρ, rfl, rfl, e, rfl⟩
      · cases h
    · cases h
  · cases h
theorem rel_nil {K : PySem.W.Frag} {cl : Nat → Addr} {P : Addr → Prop} {H : Hp} (hP : ∀ a, P a → H a ≠ none) : Rel K cl P [] [] H :=
  ⟨rfl, fun i s h => by simp at h, fun i j a h => by simp [kd] at h, hP⟩
theorem hid_nil (P : Addr → Prop) : hid P [] [] = P := by
  funext a
  unfold hid
  simp [kd]
theorem sp_two {K : PySem.W.Frag} {cl : Nat → Addr} {P : Addr → Prop} {H : Hp} {d1 d2 : D} {x y : V} {F : ME} {r : D × Env} {Q : VK} {E : XK} (hP : ∀ a, P a → H a ≠ none) (hx : Rp K cl (hide H P) d1 x) (hy : Rp K cl (hide H P) d2 y)
    (e : okR (F [.val d1, .val d2]) = some r) (k : ∀ v H', Ex H H' → Rp K cl (hide H' P) r.1 v → Q v H') : spF K cl 2 F [x, y] H Q E := by
  refine sp_vals (O := P) (ρ := []) (σ := []) (ds := [d1, d2]) (rel_nil hP) ?_ rfl e fun v H' pe => k v H' ?_ ?_
  · show Rps K cl (hide H (hid P [] [])) _ _
    rw [hid_nil]
    exact Rps.cons hx (Rps.cons hy Rps.nil)
  · exact fun a o h => pe.po.fr a o h fun ⟨i, h1, _⟩ => by simp [kd] at h1
  · have := pe.val
    have e2 : vis P [] [] H' = hide H' P := by show hide H' (hid P [] []) = _; rw [hid_nil]
    rw [e2] at this
    exact this
section
variable {X : Cx} {cl : Nat → Addr} {k j c : Nat} {F : ME}
def rNeq (C : Addr) (sp : Sp) : R2 := fun x y H Q => ∃ a dx vs b dy ws, (x = .ref a ∧ y = .ref b) ∧ SlX.Slt H a C dx vs ∧ SlX.Slt H b C dy ws ∧ sp [x, y] H (fun v H' => ∃ t, v = .bl t ∧ Q (.bl (!t)) H') E0
theorem op_neq {C g : Addr} {sp : Sp} (c : EqCls X.K C g) (G : FnR X.prog X.w X.K X.mg X.base CX0 k g sp) (hr : Room (k + 1) X.A) : OpR X (compareOp .NotEq) (rNeq C sp) := by
  intro pins s σ H x y v u Q I rx ry h
  obtain ⟨a, dx, vs, b, dy, ws, ⟨rfl, rfl⟩, ha, hb, q⟩ := h
  obtain rfl : v = Value.ref a := rx
  obtain rfl : u = Value.ref b := ry
  obtain ⟨_, _, _, J, _⟩ := SlX.slt_inst I ha
  obtain ⟨_, _, _, J2, _⟩ := SlX.slt_inst I hb
  have hr1 : Room k X.A.in1 := Room.in1 hr
  refine ne_cmp I.kIn J c (hu_of hr) J2.type (wpAny_mono (wpAny_call (run_at (us := [.ref a, .ref b]) (ws := [.ref a, .ref b]) G hr1 I.env0.in1 (fun _ _ _ _ _ _ _ z => False.elim z) I (.cons rfl (.cons rfl .nil)) q)) (fun w s' z => ?_) fun _ _ z => z)
  obtain ⟨z', H', I', rz, t, rfl, qz⟩ := z
  obtain rfl : w = Value.bool t := rz
  exact ⟨t, rfl, .bl (!t), H', I', rfl, qz⟩
/-- == of two instances whose class tells it -/
theorem op_eqOwn {C g : Addr} {sp : Sp} (c : EqCls X.K C g) (G : FnR X.prog X.w X.K X.mg X.base CX0 k g sp) (hr : Room k X.A) : OpR X (compareOp .Eq) (SlX.rOwn X.K C sp E0) := by
  intro pins s σ H x y v u Q I rx ry h
  obtain ⟨a, dx, vs, b, D, dy, ws, rfl, rfl, ha, hb, hn, q⟩ := h
  obtain rfl : v = Value.ref a := rx
  obtain rfl : u = Value.ref b := ry
  obtain ⟨_, _, _, J, _⟩ := SlX.slt_inst I ha
  obtain ⟨_, _, _, J2, _⟩ := SlX.slt_inst I hb
  obtain ⟨m, hF⟩ := I.fr
  show wpAny _ _ (richCompare .Eq _ _) _ _ _
  refine PySem.W.cmp_K (op := .Eq) (tb := .ref D) hr.rm.units0 hF I.ok.mod.kin J J2.type hn c.eq c.fn (wpAny_mono (wpAny_call (run_at (us := [.ref a, .ref b]) (ws := [.ref a, .ref b]) G hr I.env0 (fun _ _ _ _ _ _ _ z => False.elim z) I (.cons rfl (.cons rfl .nil)) q)) (fun w s' z => ?_) fun _ _ z => z)
  obtain ⟨z1, H', I', rz, qz⟩ := z
  exact SlX.cmpback rz ⟨z1, H', I', rz, qz⟩
theorem o_ownEq (h : OkEq X.prog X.w X.K cl X.mg X.base k (cl c) F) (hr : Room j X.A) (hk : k + 1 ≤ j) : Op2 X cl (compareOp .Eq) (ownEq c F) := by
  obtain ⟨g, c1, G⟩ := h
  refine ⟨_, op_eqOwn c1 G (hr.mono (by omega)), fun P H x y dx dy d Q hP hx hy e q => ?_⟩
  obtain ⟨fs, gs, t, ρ, rfl, rfl, ey, rfl⟩ := ownEq_some e
  have hs := sp_two (E := E0) hP hx hy ey q
  simp only [Rp] at hx hy
  obtain ⟨a, da, va, rfl, h1, h2⟩ := hx
  obtain ⟨b, db, vb, rfl, h3, h4⟩ := hy
  exact ⟨a, da, _, b, cl c, db, _, rfl, rfl, slt_ex (hide_ex H _) h1, slt_ex (hide_ex H _) h3, by simp [PySem.W.notFirst], hs⟩
theorem o_ownNe (h : OkEq X.prog X.w X.K cl X.mg X.base k (cl c) F) (hr : Room j X.A) (hk : k + 1 ≤ j) : Op2 X cl (compareOp .NotEq) (ownNe c F) := by
  obtain ⟨g, c1, G⟩ := h
  refine ⟨_, op_neq c1 G (hr.mono hk), fun P H x y dx dy d Q hP hx hy e q => ?_⟩
  unfold ownNe at e
  split at e
  case h_2 => cases e
  rename_i t e1
  cases e
  obtain ⟨fs, gs, t', ρ, rfl, rfl, ey, e2⟩ := ownEq_some e1
  cases e2
  have hs := sp_two (E := E0) (Q := fun v H' => ∃ t, v = .bl t ∧ Q (.bl (!t)) H') hP hx hy ey fun v H' ex hv => by
    simp only [Rp] at hv
    exact ⟨t, hv, q _ H' ex (by simp only [Rp])⟩
  simp only [Rp] at hx hy
  obtain ⟨a, da, va, rfl, h1, h2⟩ := hx
  obtain ⟨b, db, vb, rfl, h3, h4⟩ := hy
  exact ⟨a, da, _, b, db, _, ⟨rfl, rfl⟩, slt_ex (hide_ex H _) h1, slt_ex (hide_ex H _) h3, hs⟩
end
end DF
namespace DF
open PySem PySem.Spec PyProof.Rows L2 Evl
/-! ### isinstance of an own class; facts of the head -/
def fIsiC (c : Nat) : List D → Option D
  | [.obj c1 _, .cls c2] => if c1 = c ∧ c2 = c then some (.bl true) else none
  | _ => none
structure IsiFact (K : PySem.W.Frag) (C : Addr) : Prop where
  cls : SlX.SCls K C
  isi : SlX.SIsi K C
  kit : PySem.W.kitOne K (.ref C) (.ref C) = some true
theorem o_isiC {X : Cx} {cl : Nat → Addr} {c : Nat} (f : IsiFact X.K (cl c)) : OpN X cl (.builtin "isinstance") (fIsiC c) := ⟨_, SlX.call_isiSl (.ref (cl c)), fun P H xs ds d Q hP hx e q => by
  unfold fIsiC at e
  split at e
  · split at e
    · rename_i hc
      obtain ⟨rfl, rfl⟩ := hc
      cases e
      obtain ⟨v, w, rfl, h1, h2⟩ := rps2 hx
      simp only [Rp] at h1 h2
      obtain ⟨a, dx, vs, rfl, h3, h4⟩ := h1
      subst h2
      exact ⟨a, cl _, dx, _, .ref (cl _), true, rfl, rfl, fun w hw => hw, slt_ex (hide_ex H _) h3, f.cls, f.isi, f.kit, q _ H (Ex.refl H) (by simp only [Rp])⟩
    · cases e
  · cases e⟩
theorem de_gcls {X : Cx} {cl : Nat → Addr} {Z : ZK} {x : Str} {pos : Pos} {c : Nat} (h : X.mg x = some (.ref (cl c))) (hg : Gl X x := by rfl) (hd : (x == ("__debug__" : Str)) = false := by decide) : PE X (.Name x pos) (wE X.K cl Z (mC (.cls c))) :=
  de_c (pe_glob (v := .ref (cl c)) hg h rfl hd) fun H => by simp only [Rp]
def eqB (K : PySem.W.Frag) (x : Str) : Bool :=
  He.eqO (PySem.W.findIn K (.ref (He.ga K x)) "__ne__") (some (some (.builtin "object.__ne__"))) && (He.eqO (PySem.W.findIn K (.ref (He.ga K x)) "__eq__") (some (some (.ref (He.ma K (He.ga K x) "__eq__")))) &&
    (PySem.W.isFn K (.ref (He.ma K (He.ga K x) "__eq__")) && decide (PySem.W.subIn K (.ref (He.ga K x)) (.type "object") = some true)))
theorem eqB_ok {K : PySem.W.Frag} {x : Str} (h : eqB K x = true) : EqCls K (He.ga K x) (He.ma K (He.ga K x) "__eq__") := by
  unfold eqB at h
  simp only [Bool.and_eq_true] at h
  obtain ⟨h1, h2, h3, h4⟩ := h
  exact ⟨He.eqO_ok h1, He.eqO_ok h2, h3, of_decide_eq_true h4⟩
def isiB (K : PySem.W.Frag) (x : Str) : Bool :=
  He.eqO (PySem.W.findIn K (.ref (He.ga K x)) "__class__") (some (some (.builtin "object.__class__"))) && (He.eqO (PySem.W.specialIn K (.builtin "object.__class__") "__get__") (some (some (.builtin "getset_descriptor.__get__"))) &&
    (decide (PySem.W.takesIn K (.builtin "object.__class__") = some true) && (decide (PySem.W.mroIn K (He.ga K x) (.type "object") = some true) && decide (PySem.W.kitOne K (.ref (He.ga K x)) (.ref (He.ga K x)) = some true))))
theorem isiB_ok {K : PySem.W.Frag} {x : Str} (h0 : SlX.SCls K (He.ga K x)) (h : isiB K x = true) : IsiFact K (He.ga K x) := by
  unfold isiB at h
  simp only [Bool.and_eq_true] at h
  obtain ⟨h1, h2, h3, h4, h5⟩ := h
  exact ⟨h0, ⟨He.eqO_ok h1, He.eqO_ok h2, of_decide_eq_true h3, of_decide_eq_true h4⟩, of_decide_eq_true h5⟩
def EqFact (K : PySem.W.Frag) (C : Addr) (qual : Str) (st : Stmt) : Prop := ∃ g fd, EqCls K C g ∧ FunD K "__eq__" qual (defArgs st) (defBody st) (defScope st) [] [] g fd
theorem eqF_of {fa : List He.Fa} {fn : List He.DefD} {K : PySem.W.Frag} (c : He.SaysD fa fn K) {x q : Str} {st : Stmt} (i : Nat) (hi : fn[i]? = some ⟨(x, some "__eq__"), "__eq__", q, defArgs st, defBody st, defScope st, [], []⟩) (hb : eqB K x = true) : EqFact K (He.ga K x) q st := by
  obtain ⟨fd, F⟩ := c.def_ i hi
  exact ⟨_, fd, eqB_ok hb, F⟩
theorem ok_eqX {P : Program} {w : World} {K : PySem.W.Frag} {cl : Nat → Addr} {mg : Str → Option Value} {base : Heap} {C : Addr} {qual : Str} {st : Stmt} {N : List Str} {k : Nat} {m : MS} (F : EqFact K C qual st) (S : FnScope N ["self", "other"] (defScope st))
    (hb : ∀ (kV doc pm : Value) (an : Option Addr) (cdv ct : Value) (us : List Value), us.length = 2 → bindArgs (PySem.W.fnOf "__eq__" qual (defArgs st) (defBody st) (defScope st) .none kV doc pm an cdv ct) ⟨us, []⟩ = pure ((["self", "other"] : List Str).zip us))
    (hbody : ∀ (g : Addr) (cdv : Value) (A : Around) (outer : List PySem.Env) (s : Shared) (H : Hp) (E : XK), Room k (A.deeper (PyProof.Rows.envOfC qual (defScope st) s.heap.objs.size g cdv)) →
      PSs (cxOf CX0 P w K mg base N qual (defScope st) g cdv A outer s H E).nox (defBody st) (wS K cl Z0 m)) : OkEq P w K cl mg base (k + 1) C (mFun N.length m) := by
  obtain ⟨g, fd, c, F⟩ := F
  exact ⟨g, c, fnR_of (df_fun (FunD.plain F) S (hbody g)) (F.bindsN hb)⟩
end DF
namespace DF
open PySem PySem.Spec PyProof.Rows L2 Evl PySem.W
/-! ### len of an instance whose class tells its length -/
structure LenCls (K : PySem.W.Frag) (C g : Addr) : Prop where
  len : findIn K (.ref C) "__len__" = some (some (.ref g))
  fn : isFn K (.ref g) = true
section
variable {prog : Program} {w : World} {A : Around} {E : Value → Shared → Prop} {s : Shared} {K : PySem.W.Frag} {x C g : Addr} {ox : Obj} {od : Option Obj}
theorem len_inst {Q : Value → Shared → Prop} (X : K.In s.heap) (I : InstAt s.heap x ox C od) (c : LenCls K C g)
    (h : wpAny (model prog w) A.in1 (call (.ref g) [.ref x]) (fun v s' => ∃ n u, v = Value.int n u ∧ 0 ≤ n ∧ n < 2 ^ 63 ∧ Q (.int n s'.toks) { s' with toks := s'.toks + 1 }) E s) : wpAny (model prog w) A (call (.builtin "len") [.ref x]) Q E s := by
  have inner : wpAny (model prog w) A.in1 (callSpecial? (.ref x) (Str.ofString "__len__")) (fun r s' => ∃ n u, r = some (Value.int n u) ∧ 0 ≤ n ∧ n < 2 ^ 63 ∧ Q (.int n s'.toks) { s' with toks := s'.toks + 1 }) E s :=
    special_fn X I c.len (beq_iff_eq.mp c.fn) (wpAny_mono h (fun v s' ⟨n, u, e, z⟩ => ⟨n, u, by rw [e], z⟩) fun _ _ z => z)
  refine Calls.call_function_entry kind_len plain_len entry_len (args_len1 _) ?_
  unfold Builtin.«len»
  refine wpAny_bind (m := oneArg "len" _) (wpAny_pure (wpAny_bind (wpAny_mono inner (fun r s' ⟨n, u, e, l0, l1, q⟩ => ?_) fun _ _ z => z)))
  subst e
  refine wpAny_bind (wpAny_holding (wpAny_pure (wpAny_bind (wpAny_letGo ?_))))
  have n0 : ¬ n < 0 := by omega
  have n1 : ¬ n ≥ 2 ^ 63 := by omega
  show wpAny _ _ (if n < 0 then _ else if n ≥ 2 ^ 63 then _ else _) _ _ _
  rw [if_neg n0, if_neg n1]
  exact wpAny_bind (wpAny_mkInt (wpAny_pure ⟨_, rfl, q⟩))
end
def OkLen (P : Program) (w : World) (K : PySem.W.Frag) (cl : Nat → Addr) (mg : Str → Option Value) (base : Heap) (k : Nat) (C : Addr) (F : ME) : Prop :=
  ∃ g, LenCls K C g ∧ FnR P w K mg base CX0 k g (spF K cl 1 F)
noncomputable def fLenC (c : Nat) (F : ME) : List D → Option D
  | [.obj c1 fs] => if c1 = c then (match okR (F [.val (.obj c1 fs)]) with
    | some (.int n, _) => @ite _ (0 ≤ n ∧ n < 2 ^ 63) (Classical.propDecidable _) (some (.int n)) none
    | _ => none) else none
  | _ => none
theorem fLenC_some {c : Nat} {F : ME} {ds : List D} {d : D} (h : fLenC c F ds = some d) : ∃ fs n ρ, ds = [.obj c fs] ∧ okR (F [.val (.obj c fs)]) = some (.int n, ρ) ∧ (0 ≤ n ∧ n < 2 ^ 63) ∧ d = .int n := by
  unfold fLenC at h
  split at h
  · split at h
    · rename_i hc
      subst hc
      split at h
      · rename_i n ρ e
        by_cases hn : 0 ≤ n ∧ n < 2 ^ 63
        · rw [if_pos hn] at h
          cases h
          exact ⟨_, n, ρ, rfl, e, hn, rfl⟩
        · rw [if_neg hn] at h
          cases h
      · cases h
    · cases h
  · cases h
theorem sp_oneV {K : PySem.W.Frag} {cl : Nat → Addr} {P : Addr → Prop} {H : Hp} {d1 : D} {x : V} {F : ME} {r : D × Env} {Q : VK} {E : XK} (hP : ∀ a, P a → H a ≠ none) (hx : Rp K cl (hide H P) d1 x)
    (e : okR (F [.val d1]) = some r) (k : ∀ v H', Ex H H' → Rp K cl (hide H' P) r.1 v → Q v H') : spF K cl 1 F [x] H Q E := by
  refine sp_vals (O := P) (ρ := []) (σ := []) (ds := [d1]) (rel_nil hP) ?_ rfl e fun v H' pe => k v H' ?_ ?_
  · show Rps K cl (hide H (hid P [] [])) _ _
    rw [hid_nil]
    exact Rps.cons hx Rps.nil
  · exact fun a o h => pe.po.fr a o h fun ⟨i, h1, _⟩ => by simp [kd] at h1
  · have := pe.val
    have e2 : vis P [] [] H' = hide H' P := by show hide H' (hid P [] []) = _; rw [hid_nil]
    rw [e2] at this
    exact this
section
variable {X : Cx} {cl : Nat → Addr} {k j c : Nat} {F : ME}
def rLenC (C : Addr) (sp : Sp) : List V → Hp → VK → Prop := fun xs H Q => ∃ a dx vs, xs = [.ref a] ∧ SlX.Slt H a C dx vs ∧ sp [.ref a] H (fun v H' => ∃ n, v = .int n ∧ (0 ≤ n ∧ n < 2 ^ 63) ∧ Q (.int n) H') E0
theorem call_lenC {C g : Addr} {sp : Sp} (c : LenCls X.K C g) (G : FnR X.prog X.w X.K X.mg X.base CX0 k g sp) (hr : Room (k + 1) X.A) : CallR X (.builtin "len") (rLenC C sp) := by
  intro pins s σ H xs us Q I r h
  obtain ⟨a, dx, vs, rfl, ha, q⟩ := h
  obtain ⟨u, rfl, ru⟩ : ∃ u, us = [u] ∧ RelV (.ref a) u := by cases r with | cons x y => cases y; exact ⟨_, rfl, x⟩
  obtain rfl : u = Value.ref a := ru
  obtain ⟨_, _, _, J, _⟩ := SlX.slt_inst I ha
  have hr1 : Room k X.A.in1 := Room.in1 hr
  refine len_inst I.kIn J c (wpAny_mono (wpAny_call (run_at (us := [.ref a]) (ws := [.ref a]) G hr1 I.env0.in1 (fun _ _ _ _ _ _ _ z => False.elim z) I (.cons rfl .nil) q)) (fun w s' z => ?_) fun _ _ z => z)
  obtain ⟨z', H', I', rz, n, rfl, ⟨n0, n1⟩, qz⟩ := z
  obtain ⟨t, rfl⟩ : ∃ t, w = Value.int n t := rz
  exact ⟨n, t, rfl, n0, n1, .int n, H', I'.tok _, ⟨_, rfl⟩, qz⟩
theorem o_lenC (h : OkLen X.prog X.w X.K cl X.mg X.base k (cl c) F) (hr : Room j X.A) (hk : k + 1 ≤ j) : OpN X cl (.builtin "len") (fLenC c F) := by
  obtain ⟨g, c1, G⟩ := h
  refine ⟨_, call_lenC c1 G (hr.mono hk), fun P H xs ds d Q hP hx e q => ?_⟩
  obtain ⟨fs, n, ρ, rfl, ey, hn, rfl⟩ := fLenC_some e
  obtain ⟨v, rfl, h0⟩ := rps1 hx
  have hs := sp_oneV (E := E0) (Q := fun v H' => ∃ n, v = .int n ∧ (0 ≤ n ∧ n < 2 ^ 63) ∧ Q (.int n) H') hP h0 ey fun v H' ex hv => by
    simp only [Rp] at hv
    exact ⟨n, hv, hn, q _ H' ex (by simp only [Rp])⟩
  simp only [Rp] at h0
  obtain ⟨a, da, va, rfl, h1, h2⟩ := h0
  exact ⟨a, da, _, rfl, slt_ex (hide_ex H _) h1, hs⟩
end
def lenB (K : PySem.W.Frag) (x : Str) : Bool :=
  He.eqO (PySem.W.findIn K (.ref (He.ga K x)) "__len__") (some (some (.ref (He.ma K (He.ga K x) "__len__")))) && PySem.W.isFn K (.ref (He.ma K (He.ga K x) "__len__"))
theorem lenB_ok {K : PySem.W.Frag} {x : Str} (h : lenB K x = true) : LenCls K (He.ga K x) (He.ma K (He.ga K x) "__len__") := by
  unfold lenB at h
  simp only [Bool.and_eq_true] at h
  exact ⟨He.eqO_ok h.1, h.2⟩
def LenFact (K : PySem.W.Frag) (C : Addr) (qual : Str) (st : Stmt) : Prop := ∃ g fd, LenCls K C g ∧ FunD K "__len__" qual (defArgs st) (defBody st) (defScope st) [] [] g fd
theorem lenF_of {fa : List He.Fa} {fn : List He.DefD} {K : PySem.W.Frag} (c : He.SaysD fa fn K) {x q : Str} {st : Stmt} (i : Nat) (hi : fn[i]? = some ⟨(x, some "__len__"), "__len__", q, defArgs st, defBody st, defScope st, [], []⟩) (hb : lenB K x = true) : LenFact K (He.ga K x) q st := by
  obtain ⟨fd, F⟩ := c.def_ i hi
  exact ⟨_, fd, lenB_ok hb, F⟩
theorem ok_lenX {P : Program} {w : World} {K : PySem.W.Frag} {cl : Nat → Addr} {mg : Str → Option Value} {base : Heap} {C : Addr} {qual : Str} {st : Stmt} {N : List Str} {k : Nat} {m : MS} (F : LenFact K C qual st) (S : FnScope N ["self"] (defScope st))
    (hb : ∀ (kV doc pm : Value) (an : Option Addr) (cdv ct : Value) (us : List Value), us.length = 1 → bindArgs (PySem.W.fnOf "__len__" qual (defArgs st) (defBody st) (defScope st) .none kV doc pm an cdv ct) ⟨us, []⟩ = pure ((["self"] : List Str).zip us))
    (hbody : ∀ (g : Addr) (cdv : Value) (A : Around) (outer : List PySem.Env) (s : Shared) (H : Hp) (E : XK), Room k (A.deeper (PyProof.Rows.envOfC qual (defScope st) s.heap.objs.size g cdv)) →
      PSs (cxOf CX0 P w K mg base N qual (defScope st) g cdv A outer s H E).nox (defBody st) (wS K cl Z0 m)) : OkLen P w K cl mg base (k + 1) C (mFun N.length m) := by
  obtain ⟨g, fd, c, F⟩ := F
  exact ⟨g, c, fnR_of (df_fun (FunD.plain F) S (hbody g)) (F.bindsN hb)⟩
end DF
namespace DF
open PySem PySem.Spec PyProof.Rows L2 Evl
/-! ### zip of three, each a tuple or a list -/
def SqB (t : Bool) (K : PySem.W.Frag) (H : Hp) (a : Addr) (xs : List V) : Prop := match t with
  | true => SqT K H a xs
  | false => SqL K H a xs
def IterB (t : Bool) (h : Heap) (n a : Addr) (i : Nat) : Prop := match t with
  | true => h.IsTupleIter n a i
  | false => h.IsListIter n a i
def ArrB (t : Bool) (h : Heap) (a : Addr) (us : Array Value) : Prop := match t with
  | true => h.IsTuple a us
  | false => h.IsList a us
def iterO (t : Bool) (a : Addr) : Obj := match t with
  | true => { cls := .type "tuple_iterator", data := .fields #[.ref a, .int 0 0] }
  | false => { cls := .type "list_iterator", data := .fields #[.ref a, .int 0 0] }
theorem begB (t : Bool) (a : Addr) (us : Array Value) : Begins (.ref a) (iterO t a) fun h => ArrB t h a us := by
  cases t
  · exact begins_list a us
  · exact begins_tuple a us
theorem drawB {prog : Program} {w : World} {A : Around} (hh : A.handled = none) (t : Bool) (n a : Addr) (hne : a ≠ n) (us : Array Value) :
    Draws prog w A n [n, a] us.size (fun i v => us[i]? = some v) (fun i h => IterB t h n a i ∧ ArrB t h a us) := by
  cases t
  · exact Draws.list hh n a hne us
  · exact Draws.tuple hh n a hne us
theorem iterB_get {t : Bool} {h : Heap} {n a : Addr} {i : Nat} (st : IterB t h n a i) : ∃ o, h.get? n = some o ∧ ∀ v, o.data ≠ .cell v := by
  cases t
  · obtain ⟨o, e, _, f⟩ := st
    exact ⟨o, e, fun v z => by rw [f] at z; cases z⟩
  · obtain ⟨o, e, _, f⟩ := st
    exact ⟨o, e, fun v z => by rw [f] at z; cases z⟩
theorem iterB_at {t : Bool} {h h' : Heap} {n a : Addr} {i : Nat} (st : IterB t h n a i) (k : ∀ o, h.get? n = some o → h'.get? n = some o) : IterB t h' n a i := by
  cases t
  · exact Heap.IsListIter.at st k
  · exact Heap.IsTupleIter.at st k
theorem sqB_at {X : Cx} {pins : List (Addr × Obj)} {σ : L2.St} {H : Hp} {s : Shared} (I : Inv X pins σ H s) {t : Bool} {a : Addr} {xs : List V} (q : SqB t X.K H a xs) : ∃ us : List Value, Vals xs us ∧ ArrB t s.heap a us.toArray ∧ a < s.heap.objs.size := by
  cases t
  · obtain ⟨us, r, l, _⟩ := I.list q
    exact ⟨us, r, l.isList, l.lt⟩
  · obtain ⟨us, r, l, _⟩ := I.tuple q
    obtain ⟨o, e, _⟩ := id l
    exact ⟨us, r, l, Heap.lt_size e⟩
theorem sqB_inj {X : Cx} {pins : List (Addr × Obj)} {σ : L2.St} {H : Hp} {s : Shared} (I : Inv X pins σ H s) {t : Bool} {a : Addr} {xs ys : List V} (q : SqB t X.K H a xs) (q' : SqB t X.K H a ys) : xs = ys := by
  cases t
  · exact I.list_inj q q'
  · exact I.tuple_inj q q'
def ItB (K : PySem.W.Frag) (t1 t2 t3 : Bool) (a b c : Addr) : It where
  go := fun i H => ∃ (xs ys zs : List V) (x y z : V), (SqB t1 K H a xs ∧ xs[i]? = some x) ∧ (SqB t2 K H b ys ∧ ys[i]? = some y) ∧ SqB t3 K H c zs ∧ zs[i]? = some z
  yld := fun i H v H' => ∃ T x y z, (v = .ref T ∧ H T = none ∧ H' = upd H T (.tup [x, y, z])) ∧ (∀ xs, SqB t1 K H a xs → xs[i]? = some x) ∧ (∀ ys, SqB t2 K H b ys → ys[i]? = some y) ∧ ∀ zs, SqB t3 K H c zs → zs[i]? = some z
  stop := fun i H => ∃ xs ys zs : List V, (SqB t1 K H a xs ∧ SqB t2 K H b ys ∧ SqB t3 K H c zs) ∧ i = min (min xs.length ys.length) zs.length
def cells6 (n : Nat) : List Addr := [n + 5, n + 3, n + 4, n, n + 1, n + 2]
theorem cells6_mem {n c : Nat} : c ∈ cells6 n ↔ c = n + 5 ∨ c = n + 3 ∨ c = n + 4 ∨ c = n ∨ c = n + 1 ∨ c = n + 2 := by
  simp only [cells6, List.mem_cons, List.not_mem_nil, or_false]
theorem cells6_ge {n c : Nat} (h : c ∈ cells6 n) : n ≤ c ∧ c ≤ n + 5 := by
  have := cells6_mem.mp h
  omega
structure St6 (t1 t2 t3 : Bool) (n a b c i : Nat) (h : Heap) : Prop where
  zip : IsZip h (n + 5) (n + 3) (n + 4) .none
  ins : IsTupOf3 h (n + 3) (.ref n) (.ref (n + 1)) (.ref (n + 2))
  out : ∃ x y z, IsTupOf3 h (n + 4) x y z
  one : IterB t1 h n a i
  two : IterB t2 h (n + 1) b i
  tri : IterB t3 h (n + 2) c i
theorem sep6 {n a b c : Nat} (ha : a < n) (hb : b < n) (hc : c < n) : ZipSep3 (n + 5) (n + 3) (n + 4) n (n + 1) (n + 2) [n, a] [n + 1, b] [n + 2, c] :=
  zip_sep3 (N := n) (fun x hx => by rw [List.mem_singleton.mp hx]; exact ha) (fun x hx => by rw [List.mem_singleton.mp hx]; exact hb) (fun x hx => by rw [List.mem_singleton.mp hx]; exact hc)
theorem not6 {n c : Nat} (h : c ∉ cells6 n) : c ≠ n + 5 ∧ c ≠ n + 4 ∧ c ≠ n ∧ c ≠ n + 1 ∧ c ≠ n + 2 :=
  ⟨fun e => h (cells6_mem.mpr (by omega)), fun e => h (cells6_mem.mpr (by omega)), fun e => h (cells6_mem.mpr (by omega)), fun e => h (cells6_mem.mpr (by omega)), fun e => h (cells6_mem.mpr (by omega))⟩
theorem turn6 {P : Program} {w : World} {K : PySem.W.Frag} {elts : List Expr} {kk : Nat} {tp : Pos} {t1 t2 t3 : Bool} {n a b c : Nat} (ha : a < n) (hb : b < n) (hcn : c < n) : Turn P w K (.Tuple elts kk tp) (ItB K t1 t2 t3 a b c) (cells6 n) (n + 5) (St6 t1 t2 t3 n a b c) where
  mem := List.mem_cons_self ..
  obj := by
    intro i h st d hd
    obtain ⟨x, y, z, e3⟩ := st.out
    have hd' : d = n + 5 ∨ d = n + 3 ∨ d = n + 4 ∨ d = n ∨ d = n + 1 ∨ d = n + 2 := cells6_mem.mp hd
    rcases hd' with q | q | q | q | q | q
    · subst q; exact ⟨_, st.zip, fun _ z => nomatch z⟩
    · subst q; exact ⟨_, st.ins, fun _ z => nomatch z⟩
    · subst q; exact ⟨_, e3, fun _ z => nomatch z⟩
    · subst q; exact iterB_get st.one
    · subst q; exact iterB_get st.two
    · subst q; exact iterB_get st.tri
  keep := by
    intro i h h' st k
    obtain ⟨x, y, z, e3⟩ := st.out
    have m : ∀ d : Nat, (d = n + 5 ∨ d = n + 3 ∨ d = n + 4 ∨ d = n ∨ d = n + 1 ∨ d = n + 2) → ∀ o, h.get? d = some o → h'.get? d = some o := fun d hd => k d (cells6_mem.mpr hd)
    exact ⟨m (n + 5) (by omega) _ st.zip, m (n + 3) (by omega) _ st.ins, ⟨x, y, z, m (n + 4) (by omega) _ e3⟩, iterB_at st.one (m n (by omega)), iterB_at st.two (m (n + 1) (by omega)), iterB_at st.tri (m (n + 2) (by omega))⟩
  item := by
    intro X eP ew eK hc i pins s σ H E I fp st g
    subst eP ew eK
    obtain ⟨xs, ys, zs, x, y, z, ⟨qx, gx⟩, ⟨qy, gy⟩, qz, gz⟩ := g
    obtain ⟨us, ru, tu, _⟩ := sqB_at I qx
    obtain ⟨vs, rv, tv, _⟩ := sqB_at I qy
    obtain ⟨ws, rw', tw, _⟩ := sqB_at I qz
    obtain ⟨u, eu, xu⟩ := ru.get gx
    obtain ⟨v, ev', yv⟩ := rv.get gy
    obtain ⟨w1, ew', zw⟩ := rw'.get gz
    have hh : X.A.in1.handled = none := I.ok.hd hc
    have D1 := drawB (prog := X.prog) (w := X.w) (A := X.A.in1) hh t1 n a (nna (by omega)) us.toArray
    have D2 := drawB (prog := X.prog) (w := X.w) (A := X.A.in1) hh t2 (n + 1) b (nna (by omega)) vs.toArray
    have D3 := drawB (prog := X.prog) (w := X.w) (A := X.A.in1) hh t3 (n + 2) c (nna (by omega)) ws.toArray
    obtain ⟨p1, p2, p3, e3⟩ := st.out
    have hu : i < us.toArray.size := by simpa using (List.getElem?_eq_some_iff.mp eu).1
    have hv : i < vs.toArray.size := by simpa using (List.getElem?_eq_some_iff.mp ev').1
    have hw : i < ws.toArray.size := by simpa using (List.getElem?_eq_some_iff.mp ew').1
    obtain ⟨_, i1, _⟩ := iterB_get st.one
    obtain ⟨_, i2, _⟩ := iterB_get st.two
    obtain ⟨_, i3, _⟩ := iterB_get st.tri
    have c5 : n + 5 < s.heap.objs.size := Heap.lt_size st.zip
    refine wpAny_pyNext_zipD3_item (sep6 ha hb hcn) D1 D2 D3 st.zip st.ins e3 ⟨st.one, tu⟩ ⟨st.two, tv⟩ ⟨st.tri, tw⟩ hu hv hw ?_
    intro w1' w2' w3' h1 tk k1 k2 k3 z1 o1 s1 s2 s3 nt _ keep
    have q1 : w1' = u := by have := k1.symm.trans (by simpa using eu); exact Option.some.inj this
    have q2 : w2' = v := by have := k2.symm.trans (by simpa using ev'); exact Option.some.inj this
    have q3 : w3' = w1 := by have := k3.symm.trans (by simpa using ew'); exact Option.some.inj this
    subst q1 q2 q3
    refine ⟨_, rfl, ?_⟩
    refine wpAny_letOwnedTupleGo_zip (s := { s with heap := h1, toks := tk }) z1 ?_
    intro h2 z2 sb
    have off : ∀ d, d ≠ n + 5 → ∀ o, h1.get? d = some o → h2.get? d = some o := fun d hd o e => (sb.2 d hd).trans e
    have same : ∀ d o, d ∉ cells6 n → s.heap.get? d = some o → h2.get? d = some o := by
      intro d o hn e
      have dd := not6 hn
      exact off d dd.1 o (keep d o dd.1 dd.2.1 dd.2.2.1 dd.2.2.2.1 dd.2.2.2.2 e)
    have lay : ObjOk X.prog X.w (upd H s.heap.objs.size (.tup [x, y, z])) h2 s.heap.objs.size (.tup [x, y, z]) := by
      refine ⟨by show 3 ≤ sizeLine; decide, [w1', w2', w3'], .cons xu (.cons yv (.cons zw .nil)), ⟨_, off _ (nna (by omega)) _ nt, rfl, _, rfl⟩⟩
    have I1 := I.turnedNew (t' := tk) (ch := cells6 n) same fp (Nat.le_refl _) lay
    refine ⟨.ref s.heap.objs.size, _, I1, rfl, ⟨_, x, y, z, ⟨rfl, I.hok.fresh (Nat.le_refl _), rfl⟩, fun l hl => ?_, fun l hl => ?_, fun l hl => ?_⟩, ⟨z2, ?_, ⟨w1', w2', w3', ?_⟩, ?_, ?_, ?_⟩, ?_⟩
    · rw [sqB_inj I hl qx]; exact gx
    · rw [sqB_inj I hl qy]; exact gy
    · rw [sqB_inj I hl qz]; exact gz
    · exact off _ (nna (by omega)) _ (keep _ _ (nna (by omega)) (nna (by omega)) (nna (by omega)) (nna (by omega)) (nna (by omega)) st.ins)
    · exact off _ (nna (by omega)) _ o1
    · exact iterB_at s1.1 fun o e => off n (nna (by omega)) o e
    · exact iterB_at s2.1 fun o e => off (n + 1) (nna (by omega)) o e
    · exact iterB_at s3.1 fun o e => off (n + 2) (nna (by omega)) o e
    · intro d hdm
      have hge := cells6_ge hdm
      have : d ≠ s.heap.objs.size := nna (by omega)
      rw [upd_ne this]
      exact (fp d hdm).1
  done := by
    intro X eP ew eK hc i pins s σ H E I fp st g
    subst eP ew eK
    obtain ⟨xs, ys, zs, ⟨qx, qy, qz⟩, hend⟩ := g
    obtain ⟨us, ru, tu, _⟩ := sqB_at I qx
    obtain ⟨vs, rv, tv, _⟩ := sqB_at I qy
    obtain ⟨ws, rw', tw, _⟩ := sqB_at I qz
    have hh : X.A.in1.handled = none := I.ok.hd hc
    obtain ⟨p1, p2, p3, e3⟩ := st.out
    have D1 := drawB (prog := X.prog) (w := X.w) (A := X.A.in1) hh t1 n a (nna (by omega)) us.toArray
    have D2 := drawB (prog := X.prog) (w := X.w) (A := X.A.in1) hh t2 (n + 1) b (nna (by omega)) vs.toArray
    have D3 := drawB (prog := X.prog) (w := X.w) (A := X.A.in1) hh t3 (n + 2) c (nna (by omega)) ws.toArray
    have l1 := ru.length
    have l2 := rv.length
    have l3 := rw'.length
    have z1 : us.toArray.size = xs.length := by rw [List.size_toArray]; exact l1.symm
    have z2 : vs.toArray.size = ys.length := by rw [List.size_toArray]; exact l2.symm
    have z3 : ws.toArray.size = zs.length := by rw [List.size_toArray]; exact l3.symm
    refine wpAny_pyNext_zipD3_end (sep6 ha hb hcn) D1 D2 D3 st.zip st.ins e3 ⟨st.one, tu⟩ ⟨st.two, tv⟩ ⟨st.tri, tw⟩ (by omega) (by omega) (by omega) (by omega) ?_
    intro h' tk k
    exact ⟨rfl, I.turnedL (t' := tk) (ch := cells6 n) (fun d o hn e => by
      have dd := not6 hn
      exact k d o dd.1 dd.2.1 dd.2.2.1 dd.2.2.2.1 dd.2.2.2.2 e) fp⟩
  self := fun A i s Q E st h => wpAny_pyIter_zip st.zip h
def iZip6 (K : PySem.W.Frag) (ta : TA) : TI := fun σ H R => ta σ H fun vs H1 => ∃ (t1 t2 t3 : Bool) (a b c : Addr) (xs ys zs : List V), vs = [.ref a, .ref b, .ref c] ∧
  SqB t1 K H1 a xs ∧ SqB t2 K H1 b ys ∧ SqB t3 K H1 c zs ∧ R (ItB K t1 t2 t3 a b c) H1
theorem fp6 {X : Cx} {pins : List (Addr × Obj)} {σ : L2.St} {H : Hp} {s : Shared} (I : Inv X pins σ H s) : ∀ c ∈ cells6 s.heap.objs.size, FpOk X pins H c := fun c hc =>
  I.fpOk (cells6_ge hc).1 (I.hok.fresh (cells6_ge hc).1)
theorem iterO_at {t : Bool} {a n : Addr} {h : Heap} (e : h.get? n = some (iterO t a)) : IterB t h n a 0 := by
  cases t
  · exact ⟨_, e, rfl, rfl⟩
  · exact ⟨_, e, rfl, rfl⟩
section
variable {X : Cx} {e e2 e3 : Expr} {ta : TA} {p pos tp : Pos} {elts : List Expr} {kk : Nat}
theorem pi_zip6 (hg : Gl X "zip") (hm : X.mg "zip" = none) (ha : PA X [e, e2, e3] ta) (hs : starEach [e, e2, e3] X.env = (false, eval e X.env) :: starEach [e2, e3] X.env := by rfl)
    (hpl : (backTo pos (starEach [e2, e3] X.env)).any (·.1) = false := by rfl) : PI X (.Tuple elts kk tp) (.Call (.Name "zip" p) [e, e2, e3] [] pos) (iZip6 X.K ta) := by
  constructor
  intro pins s σ H R I h
  have args := ha.run pos pins s σ H _ I h
  refine Call_ (ld_blt I hg hm PyProof.Rows.boot_zip (PyProof.Rows.callWith_type1 (thn args ?_) hs hpl))
  rintro us s1 ⟨vs, H1, I1, rv, t1, t2, t3, a, b, c, xs, ys, zs, rfl, qa, qb, qc, q⟩
  obtain ⟨u1, r1, rfl, ra, rv⟩ : ∃ u1 r1, us = u1 :: r1 ∧ RelV (.ref a) u1 ∧ Vals [.ref b, .ref c] r1 := by cases rv with | cons x y => exact ⟨_, _, rfl, x, y⟩
  obtain ⟨u2, r2, rfl, rb, rv⟩ : ∃ u2 r2, r1 = u2 :: r2 ∧ RelV (.ref b) u2 ∧ Vals [.ref c] r2 := by cases rv with | cons x y => exact ⟨_, _, rfl, x, y⟩
  obtain ⟨u3, rfl, rc⟩ : ∃ u3, r2 = [u3] ∧ RelV (.ref c) u3 := by cases rv with | cons x y => cases y; exact ⟨_, rfl, x⟩
  cases ra
  cases rb
  cases rc
  have fp := fp6 I1
  obtain ⟨is, _, pa, la⟩ := sqB_at I1 qa
  obtain ⟨js, _, pb, lb⟩ := sqB_at I1 qb
  obtain ⟨ks, _, pc, lc⟩ := sqB_at I1 qc
  exact zip_begins3 (begB t1 a is.toArray) (begB t2 b js.toArray) (begB t3 c ks.toArray) pa pb pc fun h' z i1 i2 o1 o2 o3 _ k => wpAny_pyIter_zip z ⟨_, cells6 s1.heap.objs.size, St6 t1 t2 t3 s1.heap.objs.size a b c, ItB X.K t1 t2 t3 a b c, H1, rfl, I1.kept (t' := s1.toks) k, turn6 la lb lc, ⟨z, i1, ⟨_, _, _, i2⟩, iterO_at o1, iterO_at o2, iterO_at o3⟩, fp, q⟩
end
def zip3D : List D → List D → List D → List D
  | d :: ds, e :: es, f :: fs => .tup [d, e, f] :: zip3D ds es fs
  | _, _, _ => []
theorem zip3D_len : ∀ (ds es fs : List D), (zip3D ds es fs).length = min (min ds.length es.length) fs.length
  | [], _, _ => by simp [zip3D]
  | _ :: _, [], _ => by simp [zip3D]
  | _ :: _, _ :: _, [] => by simp [zip3D]
  | d :: ds, e :: es, f :: fs => by simp [zip3D, zip3D_len ds es fs]
theorem zip3D_get : ∀ {ds es fs : List D} {i : Nat} {d : D}, (zip3D ds es fs)[i]? = some d → ∃ a b c, ds[i]? = some a ∧ es[i]? = some b ∧ fs[i]? = some c ∧ d = .tup [a, b, c]
  | [], _, _, _, _, h => by simp [zip3D] at h
  | _ :: _, [], _, _, _, h => by simp [zip3D] at h
  | _ :: _, _ :: _, [], _, _, h => by simp [zip3D] at h
  | a :: ds, b :: es, c :: fs, 0, d, h => by
    simp only [zip3D, List.getElem?_cons_zero, Option.some.injEq] at h
    exact ⟨a, b, c, rfl, rfl, rfl, h.symm⟩
  | a :: ds, b :: es, c :: fs, i + 1, d, h => by
    simp only [zip3D, List.getElem?_cons_succ] at h
    obtain ⟨x, y, z, h1, h2, h3, h4⟩ := zip3D_get h
    exact ⟨x, y, z, by simpa using h1, by simpa using h2, by simpa using h3, h4⟩
def seqB : D → Option (Bool × List D)
  | .tup ds => some (true, ds)
  | .lst ds => some (false, ds)
  | _ => none
def SqH (t : Bool) (K : PySem.W.Frag) (H : Hp) (a : Addr) (xs : List V) : Prop := match t with
  | true => SqT K H a xs
  | false => H a = some (.lst xs)
section
variable {X : Cx} {cl : Nat → Addr} {Z : ZK} {K : PySem.W.Frag} {a b c : Expr} {mr : MA} {p pos : Pos} {elts : List Expr} {kk : Nat}
theorem seqB_rp {H : Hp} {d : D} {v : V} {t : Bool} {ds : List D} (h : Rp K cl H d v) (e : seqB d = some (t, ds)) : ∃ a ws, v = .ref a ∧ SqH t K H a ws ∧ Rps K cl H ds ws := by
  unfold seqB at e
  split at e
  · cases e
    simp only [Rp] at h
    obtain ⟨a, ws, rfl, h3, h4⟩ := h
    exact ⟨a, ws, rfl, h3, h4⟩
  · cases e
    simp only [Rp] at h
    obtain ⟨a, ws, rfl, h3, h4⟩ := h
    exact ⟨a, ws, rfl, h3, h4⟩
  · cases e
theorem sqH_up {B H : Hp} {P : Addr → Prop} (ex : Ex B (hide H P)) {t : Bool} {a : Addr} {xs : List V} (h : SqH t K B a xs) : SqB t K H a xs := by
  cases t
  · exact SqL.of (hide_at (ex a _ h))
  · exact hide_seqT (ex_t ex h)
theorem sqH_hide {H : Hp} {P : Addr → Prop} {t : Bool} {a : Addr} {xs : List V} (h : SqH t K (hide H P) a xs) : SqB t K H a xs := by
  cases t
  · exact SqL.of (hide_at h)
  · exact hide_seqT h
theorem wk_zip6 {B : Hp} {t1 t2 t3 : Bool} {a b c : Addr} {ds es fs : List D} {us vs ws : List V} (h : SqH t1 K B a us) (r : Rps K cl B ds us) (h' : SqH t2 K B b vs) (r' : Rps K cl B es vs) (h2 : SqH t3 K B c ws) (r2 : Rps K cl B fs ws) : Wk K cl B (ItB K t1 t2 t3 a b c) (zip3D ds es fs) where
  step := fun P H hP ex i d hd => by
    obtain ⟨d1, d2, d3, hd1, hd2, hd3, rfl⟩ := zip3D_get hd
    obtain ⟨u, e1, e2⟩ := r.get hd1
    obtain ⟨v, e3, e4⟩ := r'.get hd2
    obtain ⟨w, e5, e6⟩ := r2.get hd3
    have q1 := sqH_up ex h
    have q2 := sqH_up ex h'
    have q3 := sqH_up ex h2
    refine ⟨⟨us, vs, ws, u, v, w, ⟨q1, e1⟩, ⟨q2, e3⟩, q3, e5⟩, fun x H' ⟨T, x1, x2, x3, ⟨hx, hT, hH⟩, hy, hy', hy2⟩ => ?_⟩
    subst hH
    subst hx
    have g1 := hy us q1
    rw [e1] at g1; cases g1
    have g2 := hy' vs q2
    rw [e3] at g2; cases g2
    have g3 := hy2 ws q3
    rw [e5] at g3; cases g3
    refine ⟨Ex.new hT, ?_⟩
    simp only [Rp]
    exact ⟨T, _, rfl, .inl (.inl (new_seen hP hT)), Rps.cons (Rp.ex (Ex.trans ex (new_ex hT)) _ _ e2) (Rps.cons (Rp.ex (Ex.trans ex (new_ex hT)) _ _ e4) (Rps.cons (Rp.ex (Ex.trans ex (new_ex hT)) _ _ e6) Rps.nil))⟩
  stop := fun P H ex => ⟨us, vs, ws, ⟨sqH_up ex h, sqH_up ex h', sqH_up ex h2⟩, by rw [zip3D_len, r.length, r'.length, r2.length]⟩
def fZ3 : List D → Option (List D)
  | [x, y, z] => match seqB x, seqB y, seqB z with
    | some (_, ds), some (_, es), some (_, fs) => some (zip3D ds es fs)
    | _, _, _ => none
  | _ => none
theorem fZ3_some {l : List D} {r : List D} (h : fZ3 l = some r) : ∃ x y z t1 t2 t3 ds es fs, l = [x, y, z] ∧ seqB x = some (t1, ds) ∧ seqB y = some (t2, es) ∧ seqB z = some (t3, fs) ∧ r = zip3D ds es fs := by
  unfold fZ3 at h
  split at h
  · split at h
    · rename_i e1 e2 e3
      cases h
      exact ⟨_, _, _, _, _, _, _, _, _, rfl, e1, e2, e3, rfl⟩
    · cases h
  · cases h
theorem rps3 {H : Hp} {d e f : D} {xs : List V} (h : Rps K cl H [d, e, f] xs) : ∃ v w u, xs = [v, w, u] ∧ Rp K cl H d v ∧ Rp K cl H e w ∧ Rp K cl H f u := by
  simp only [Rps] at h
  obtain ⟨v, r, rfl, h1, w, r', rfl, h2, u, r2, rfl, h3, rfl⟩ := h
  exact ⟨v, w, u, rfl, h1, h2, h3⟩
theorem di_zip6 {tpos : Pos} (z : ZOk X.K cl Z) (hg : Gl X "zip") (hm : X.mg "zip" = none) (ha : PA X [a, b, c] (wA X.K cl Z mr)) (hs : starEach [a, b, c] X.env = (false, eval a X.env) :: starEach [b, c] X.env := by rfl)
    (hpl : (backTo pos (starEach [b, c] X.env)).any (·.1) = false := by rfl) : PI X (.Tuple elts kk tpos) (.Call (.Name "zip" p) [a, b, c] [] pos) (wI X.K cl Z (mIt fZ3 mr)) :=
  (pi_zip6 hg hm ha hs hpl).wk fun σ H R ⟨ρ, O, r, g⟩ => wA_then z r g fun ds ρ1 vs H1 p g1 => by
    obtain ⟨ds', e, g2⟩ := Gd.lft g1
    simp only at e
    obtain ⟨x, y, z, t1, t2, t3, d1, d2, d3, rfl, e1, e2, e3, rfl⟩ := fZ3_some e
    obtain ⟨v1, v2, v3, rfl, h1, h2, h3⟩ := rps3 p.val
    obtain ⟨a1, w1, rfl, s1, r1⟩ := seqB_rp h1 e1
    obtain ⟨a2, w2, rfl, s2, r2⟩ := seqB_rp h2 e2
    obtain ⟨a3, w3, rfl, s3, r3⟩ := seqB_rp h3 e3
    exact ⟨t1, t2, t3, a1, a2, a3, w1, w2, w3, rfl, sqH_hide s1, sqH_hide s2, sqH_hide s3, g2 _ H1 p.poT (wk_zip6 s1 r1 s2 r2 s3 r3)⟩
end
end DF
namespace DF
open PySem PySem.Spec PyProof.Rows L2 Evl
/-! ### list(zip(x, y)): the tuples given out stay -/
section
variable {prog : Program} {w : World} {A : Around} {E : Value → Shared → Prop} {s : Shared} {z TI TO T i1 i2 : Addr} {f : Bool} {oT : Obj} {fp1 fp2 : List Addr} {n1 n2 i : Nat} {P1 P2 : Nat → Value → Prop} {St1 St2 : Nat → Heap → Prop}
theorem heldZ_item {Q : Value → Shared → Prop} (S : ZipSep2 z TI TO i1 i2 fp1 fp2) (D1 : Draws prog w A i1 fp1 n1 P1 St1) (D2 : Draws prog w A i2 fp2 n2 P2 St2)
    (hz : IsZipHeld s.heap z TI TO T f) (hT : s.heap.get? T = some oT) (hTI : IsTupOf2 s.heap TI (.ref i1) (.ref i2)) (st1 : St1 i s.heap) (st2 : St2 i s.heap) (l1 : i < n1) (l2 : i < n2)
    (hQ : ∀ x1 x2 h' tk, P1 i x1 → P2 i x2 → IsZipHeld h' z TI TO T true → St1 (i + 1) h' → St2 (i + 1) h' → IsTupOf2 h' s.heap.objs.size x1 x2 →
      (∀ c o, c ≠ z → c ≠ i1 → c ≠ i2 → s.heap.get? c = some o → h'.get? c = some o) → Q (.ref s.heap.objs.size) { s with heap := h', toks := tk }) :
    wpAny (model prog w) A (Builtin.«zip.__next__» ⟨[.ref z], []⟩) (fun fin s' => ∃ v, fin = .done (.ret v) ∧ Q v s') E s := by
  obtain ⟨hp, gs, dr, tk0, os⟩ := s
  show wpAny _ _ (field (.ref z) 2 >>= _) _ _ _
  refine wpAny_bind (wpAny_field hz rfl (x := .bool false) rfl ?_)
  show wpAny _ _ (field (.ref z) 3 >>= _) _ _ _
  refine wpAny_bind (wpAny_field hz rfl (x := .ref TI) rfl (wpAny_bind (wpAny_seqItems hTI rfl ?_)))
  show wpAny _ _ (Builtin.SmallTypes.ownedTupleIsFree (.ref z) >>= _) _ _ _
  refine wpAny_bind (wpAny_tupleHeld_zip hz hT fun p0 z0 b0 => ?_)
  replace b0 : Heap.SameBut z hp p0 := b0
  simp only [Bool.false_eq_true, if_false]
  refine wpAny_bind ?_
  rw [← Array.forIn_toList]
  simp only [List.forIn_cons, List.forIn_nil]
  refine wpAny_bind (wpAny_bind (wpAny_holding ?_))
  show wpAny _ _ (Builtin.SmallTypes.nextOf (.ref i1) >>= _) _ _ ⟨p0, gs, dr, tk0, os⟩
  refine wpAny_bind (D1.item i _ _ _ l1 (D1.over st1 b0 S.zf1) fun x1 p1 t1 q1 m1 b1 => wpAny_pure (wpAny_pure ?_))
  replace b1 : Heap.SameBut i1 p0 p1 := b1
  refine wpAny_bind (wpAny_bind (wpAny_holding ?_))
  show wpAny _ _ (Builtin.SmallTypes.nextOf (.ref i2) >>= _) _ _ ⟨p1, gs, dr, t1, os⟩
  refine wpAny_bind (D2.item i _ _ _ l2 (D2.over (D2.over st2 b0 S.zf2) b1 S.sep1_2) fun x2 p2 t2 q2 m2 b2 => wpAny_pure (wpAny_pure (wpAny_pure ?_)))
  replace b2 : Heap.SameBut i2 p1 p2 := b2
  show wpAny _ _ (newTuple [x1, x2] >>= _) _ _ ⟨p2, gs, dr, t2, os⟩
  refine wpAny_bind (wpAny_newTuple (wpAny_pure ⟨_, rfl, ?_⟩))
  have e : p2.objs.size = hp.objs.size := by rw [b2.1, b1.1, b0.1]
  have k : ∀ c o, c ≠ z → c ≠ i1 → c ≠ i2 → hp.get? c = some o → p2.get? c = some o := fun c o c1 c2 c3 q => b2.extBut _ _ c3 (b1.extBut _ _ c2 (b0.extBut _ _ c1 q))
  have up : ∀ c o, p2.get? c = some o → (p2.push { cls := .type "tuple", data := .seq #[x1, x2] }).get? c = some o := fun c o q => Heap.get?_push_of_some _ q
  have nt : IsTupOf2 (p2.push { cls := .type "tuple", data := .seq #[x1, x2] }) p2.objs.size x1 x2 := Heap.get?_push_size _ rfl
  show Q (.ref p2.objs.size) _
  rw [e] at nt ⊢
  exact hQ x1 x2 _ t2 q1 q2 (up _ _ (b2.extBut _ _ S.zi2 (b1.extBut _ _ S.zi1 z0))) (D1.frame _ _ _ (D1.over m1 b2 S.sep2_1) fun c _ o q => up c o q) (D2.frame _ _ _ m2 fun c _ o q => up c o q) nt fun c o c1 c2 c3 q => up c o (k c o c1 c2 c3 q)
theorem heldZ_end {Q : Fin → Shared → Prop} (S : ZipSep2 z TI TO i1 i2 fp1 fp2) (D1 : Draws prog w A i1 fp1 n1 P1 St1) (D2 : Draws prog w A i2 fp2 n2 P2 St2)
    (hz : IsZipHeld s.heap z TI TO T f) (hT : s.heap.get? T = some oT) (hTI : IsTupOf2 s.heap TI (.ref i1) (.ref i2)) (st1 : St1 i s.heap) (st2 : St2 i s.heap) (l1 : i ≤ n1) (l2 : i ≤ n2) (hend : i = n1 ∨ i = n2)
    (hE : ∀ h' tk e, (∀ c o, c ≠ z → c ≠ i1 → c ≠ i2 → s.heap.get? c = some o → h'.get? c = some o) → (∃ o, h'.get? e = some o ∧ o.cls = .type "StopIteration") → E (.ref e) { s with heap := h', toks := tk }) :
    wpAny (model prog w) A (Builtin.«zip.__next__» ⟨[.ref z], []⟩) Q E s := by
  obtain ⟨hp, gs, dr, tk0, os⟩ := s
  show wpAny _ _ (field (.ref z) 2 >>= _) _ _ _
  refine wpAny_bind (wpAny_field hz rfl (x := .bool false) rfl ?_)
  show wpAny _ _ (field (.ref z) 3 >>= _) _ _ _
  refine wpAny_bind (wpAny_field hz rfl (x := .ref TI) rfl (wpAny_bind (wpAny_seqItems hTI rfl ?_)))
  show wpAny _ _ (Builtin.SmallTypes.ownedTupleIsFree (.ref z) >>= _) _ _ _
  refine wpAny_bind (wpAny_tupleHeld_zip hz hT fun p0 z0 b0 => ?_)
  replace b0 : Heap.SameBut z hp p0 := b0
  simp only [Bool.false_eq_true, if_false]
  refine wpAny_bind ?_
  rw [← Array.forIn_toList]
  simp only [List.forIn_cons, List.forIn_nil]
  refine wpAny_bind (wpAny_bind (wpAny_holding ?_))
  show wpAny _ _ (Builtin.SmallTypes.nextOf (.ref i1) >>= _) _ _ ⟨p0, gs, dr, tk0, os⟩
  by_cases h1 : i = n1
  · subst h1
    exact wpAny_bind (D1.done _ _ _ (D1.over st1 b0 S.zf1) fun p1 e b1 he => hE p1 tk0 e (fun c o c1 c2 _ q => b1 _ _ c2 (b0.extBut _ _ c1 q)) he)
  · have h2 : i = n2 := hend.resolve_left h1
    refine wpAny_bind (D1.item i _ _ _ (by omega) (D1.over st1 b0 S.zf1) fun x1 p1 t1 q1 m1 b1 => wpAny_pure (wpAny_pure ?_))
    replace b1 : Heap.SameBut i1 p0 p1 := b1
    refine wpAny_bind (wpAny_bind (wpAny_holding ?_))
    show wpAny _ _ (Builtin.SmallTypes.nextOf (.ref i2) >>= _) _ _ ⟨p1, gs, dr, t1, os⟩
    subst h2
    exact wpAny_bind (D2.done _ _ _ (D2.over (D2.over st2 b0 S.zf2) b1 S.sep1_2) fun p2 e b2 he => hE p2 t1 e (fun c o c1 c2 c3 q => b2 _ _ c3 (b1.extBut _ _ c2 (b0.extBut _ _ c1 q))) he)
theorem nextZ_item {Q : Option Value → Shared → Prop} (S : ZipSep2 z TI TO i1 i2 fp1 fp2) (D1 : Draws prog w A.in1 i1 fp1 n1 P1 St1) (D2 : Draws prog w A.in1 i2 fp2 n2 P2 St2)
    (hz : IsZipHeld s.heap z TI TO T f) (hT : s.heap.get? T = some oT) (hTI : IsTupOf2 s.heap TI (.ref i1) (.ref i2)) (st1 : St1 i s.heap) (st2 : St2 i s.heap) (l1 : i < n1) (l2 : i < n2)
    (hQ : ∀ x1 x2 h' tk, P1 i x1 → P2 i x2 → IsZipHeld h' z TI TO T true → St1 (i + 1) h' → St2 (i + 1) h' → IsTupOf2 h' s.heap.objs.size x1 x2 →
      (∀ c o, c ≠ z → c ≠ i1 → c ≠ i2 → s.heap.get? c = some o → h'.get? c = some o) → Q (some (.ref s.heap.objs.size)) { s with heap := h', toks := tk }) :
    wpAny (model prog w) A (pyNext (.ref z)) Q E s := by
  have hTy : s.TypeIs (.ref z) "zip" := ⟨_, hz, rfl⟩
  unfold pyNext
  exact wpAny_bind (wpAny_attempt (wpAny_callSpecial?_slot (name := Str.ofString "__next__") hTy F.slot_zip_next (wpAny_call_entry F.slot_zip_next hTy F.entry_zip_next
    (heldZ_item S D1 D2 hz hT hTI st1 st2 l1 l2 fun x1 x2 h' tk a1 a2 a3 a4 a5 a6 a7 => wpAny_pure (hQ x1 x2 h' tk a1 a2 a3 a4 a5 a6 a7)) (F.args_zip_next_1 _))))
theorem nextZ_end {Q : Option Value → Shared → Prop} (S : ZipSep2 z TI TO i1 i2 fp1 fp2) (D1 : Draws prog w A.in1 i1 fp1 n1 P1 St1) (D2 : Draws prog w A.in1 i2 fp2 n2 P2 St2)
    (hz : IsZipHeld s.heap z TI TO T f) (hT : s.heap.get? T = some oT) (hTI : IsTupOf2 s.heap TI (.ref i1) (.ref i2)) (st1 : St1 i s.heap) (st2 : St2 i s.heap) (l1 : i ≤ n1) (l2 : i ≤ n2) (hend : i = n1 ∨ i = n2)
    (hQ : ∀ h' tk, (∀ c o, c ≠ z → c ≠ i1 → c ≠ i2 → s.heap.get? c = some o → h'.get? c = some o) → Q none { s with heap := h', toks := tk }) : wpAny (model prog w) A (pyNext (.ref z)) Q E s := by
  have hTy : s.TypeIs (.ref z) "zip" := ⟨_, hz, rfl⟩
  unfold pyNext
  refine wpAny_bind (wpAny_attempt (wpAny_callSpecial?_slot (name := Str.ofString "__next__") hTy F.slot_zip_next
    (wpAny_call_entry F.slot_zip_next hTy F.entry_zip_next (heldZ_end S D1 D2 hz hT hTI st1 st2 l1 l2 hend fun h' tk e hk he => ?_) (F.args_zip_next_1 _))))
  obtain ⟨o, ho, hc⟩ := he
  exact wpAny_bind (wpAny_isInstance (T := "StopIteration") (b := true) ⟨o, ho, hc⟩ isSubtype_stop (wpAny_pure (hQ _ _ hk)))
end
/-- the zip's cells behind i turns; S is the list that is filled -/
structure ZSt (t1 t2 : Bool) (n a b : Nat) (us vs : Array Value) (S : Nat) (i : Nat) (h : Heap) : Prop where
  ti : IsTupOf2 h (n + 2) (.ref n) (.ref (n + 1))
  s1 : IterB t1 h n a i ∧ ArrB t1 h a us
  s2 : IterB t2 h (n + 1) b i ∧ ArrB t2 h b vs
  zz : (i = 0 ∧ IsZip h (n + 4) (n + 2) (n + 3) .none ∧ ∃ x y, IsTupOf2 h (n + 3) x y) ∨ ∃ (T : Nat) (f : Bool) (oT : Obj), S < T ∧ IsZipHeld h (n + 4) (n + 2) (n + 3) T f ∧ h.get? T = some oT
theorem arrB_at {t : Bool} {h h' : Heap} {a : Addr} {us : Array Value} (st : ArrB t h a us) (k : ∀ o, h.get? a = some o → h'.get? a = some o) : ArrB t h' a us := by
  cases t
  · exact Heap.IsList.at st k
  · exact Heap.IsTuple.at st k
section
variable {prog : Program} {w : World} {A : Around} {E : Value → Shared → Prop} {s : Shared} {t1 t2 : Bool} {n a b : Nat} {us vs : Array Value} {S i : Nat}
theorem ZSt.keep {h h' : Heap} (x : ZSt t1 t2 n a b us vs S i h) (ha : a < n) (hb : b < n) (hS : n + 5 ≤ S) (k : ∀ (c : Nat) o, c ≠ S → h.get? c = some o → h'.get? c = some o) : ZSt t1 t2 n a b us vs S i h' where
  ti := k (n + 2) _ (by omega) x.ti
  s1 := ⟨iterB_at x.s1.1 fun o e => k n o (by omega) e, arrB_at x.s1.2 fun o e => k a o (by omega) e⟩
  s2 := ⟨iterB_at x.s2.1 fun o e => k (n + 1) o (by omega) e, arrB_at x.s2.2 fun o e => k b o (by omega) e⟩
  zz := by
    rcases x.zz with ⟨h0, h1, x1, y1, h2⟩ | ⟨T, f, oT, h1, h2, h3⟩
    · exact .inl ⟨h0, k (n + 4) _ (by omega) h1, x1, y1, k (n + 3) _ (by omega) h2⟩
    · exact .inr ⟨T, f, oT, h1, k (n + 4) _ (by omega) h2, k T _ (by omega) h3⟩
theorem ZSt.next {Q : Option Value → Shared → Prop} (hh : A.handled = none) (ha : a < n) (hb : b < n) (hS : S < s.heap.objs.size) (hnS : n + 5 ≤ S) (x : ZSt t1 t2 n a b us vs S i s.heap) (l1 : i < us.size) (l2 : i < vs.size)
    (hQ : ∀ x1 x2 h' tk, us[i]? = some x1 → vs[i]? = some x2 → ZSt t1 t2 n a b us vs S (i + 1) h' → IsTupOf2 h' s.heap.objs.size x1 x2 → (∀ (c : Nat) o, c ≠ n + 4 → c ≠ n + 3 → c ≠ n → c ≠ n + 1 → s.heap.get? c = some o → h'.get? c = some o) →
      Q (some (.ref s.heap.objs.size)) { s with heap := h', toks := tk }) : wpAny (model prog w) A (pyNext (.ref (n + 4))) Q E s := by
  have D1 := drawB (prog := prog) (w := w) (A := A.in1) hh t1 n a (nna (by omega)) us
  have D2 := drawB (prog := prog) (w := w) (A := A.in1) hh t2 (n + 1) b (nna (by omega)) vs
  rcases x.zz with ⟨h0, h1, x1, y1, h2⟩ | ⟨T, f, oT, h1, h2, h3⟩
  · refine wpAny_pyNext_zipD2_item (sepM ha hb) D1 D2 h1 x.ti h2 x.s1 x.s2 l1 l2 fun y1 y2 h' tk q1 q2 z1 _ m1 m2 nt _ k => ?_
    exact hQ y1 y2 h' tk q1 q2 ⟨k _ _ (nna (by omega)) (nna (by omega)) (nna (by omega)) (nna (by omega)) x.ti, m1, m2, .inr ⟨s.heap.objs.size, false, _, hS, z1, nt⟩⟩ nt fun c o c1 c2 c3 c4 e => k c o c1 c2 c3 c4 e
  · refine nextZ_item (sepM ha hb) D1 D2 h2 h3 x.ti x.s1 x.s2 l1 l2 fun y1 y2 h' tk q1 q2 z1 m1 m2 nt k => ?_
    exact hQ y1 y2 h' tk q1 q2 ⟨k _ _ (nna (by omega)) (nna (by omega)) (nna (by omega)) x.ti, m1, m2, .inr ⟨T, true, oT, h1, z1, k T _ (nna (by omega)) (nna (by omega)) (nna (by omega)) h3⟩⟩ nt fun c o c1 _ c3 c4 e => k c o c1 c3 c4 e
theorem ZSt.fin {Q : Option Value → Shared → Prop} (hh : A.handled = none) (ha : a < n) (hb : b < n) (x : ZSt t1 t2 n a b us vs S i s.heap) (l1 : i ≤ us.size) (l2 : i ≤ vs.size) (he : i = us.size ∨ i = vs.size)
    (hQ : ∀ h' tk, (∀ (c : Nat) o, c ≠ n + 4 → c ≠ n + 3 → c ≠ n → c ≠ n + 1 → s.heap.get? c = some o → h'.get? c = some o) → Q none { s with heap := h', toks := tk }) : wpAny (model prog w) A (pyNext (.ref (n + 4))) Q E s := by
  have D1 := drawB (prog := prog) (w := w) (A := A.in1) hh t1 n a (nna (by omega)) us
  have D2 := drawB (prog := prog) (w := w) (A := A.in1) hh t2 (n + 1) b (nna (by omega)) vs
  rcases x.zz with ⟨h0, h1, x1, y1, h2⟩ | ⟨T, f, oT, h1, h2, h3⟩
  · exact wpAny_pyNext_zipD2_end (sepM ha hb) D1 D2 h1 x.ti h2 x.s1 x.s2 l1 l2 he fun h' tk k => hQ h' tk fun c o c1 c2 c3 c4 e => k c o c1 c2 c3 c4 e
  · exact nextZ_end (sepM ha hb) D1 D2 h2 h3 x.ti x.s1 x.s2 l1 l2 he fun h' tk k => hQ h' tk fun c o c1 _ c3 c4 e => k c o c1 c3 c4 e
end
end DF
namespace DF
open PySem PySem.Spec PyProof.Rows L2 Evl
theorem zip_nolen : typeLookup (.type "zip") "__len__" = pure none := by rw [typeLookup_type, builtinLookup_eq_fast]; kernel_rfl
theorem zip_nohint : typeLookup (.type "zip") "__length_hint__" = pure none := by rw [typeLookup_type, builtinLookup_eq_fast]; kernel_rfl
abbrev lisO (acc : Array Value) (c : Nat) : Obj := { cls := .type "list", dict := none, data := .seq acc c, slots := #[] }
structure Tups (us vs : Array Value) (lo : Nat) (h : Heap) (as : List Addr) : Prop where
  rise : as.Pairwise (· < ·)
  above : ∀ a ∈ as, lo < a
  pairs : ∀ (j : Nat) (a : Addr), as[j]? = some a → ∃ x y, us[j]? = some x ∧ vs[j]? = some y ∧ IsTupOf2 h a x y
section
variable {prog : Program} {w : World} {A : Around} {E : Value → Shared → Prop} {s : Shared} {t1 t2 : Bool} {n a b : Nat} {us vs : Array Value} {S : Nat} {R : Result → Shared → Prop}
theorem Tups.lt {h : Heap} {as : List Addr} (g : Tups us vs S h as) {x : Addr} (hx : x ∈ as) : x < h.objs.size := by
  obtain ⟨j, hj⟩ := List.mem_iff_getElem?.mp hx
  obtain ⟨_, _, _, _, e⟩ := g.pairs j x hj
  exact Heap.lt_size e
theorem Tups.snoc {h h' : Heap} {as : List Addr} {x y : Value} (g : Tups us vs S h as) (k : ∀ (c : Nat) o, S < c → h.get? c = some o → h'.get? c = some o) (hx : us[as.length]? = some x) (hy : vs[as.length]? = some y) (hn : IsTupOf2 h' h.objs.size x y) (hS : S < h.objs.size) : Tups us vs S h' (as ++ [h.objs.size]) where
  rise := List.pairwise_append.mpr ⟨g.rise, List.pairwise_singleton _ _, fun c hc d hd => by rw [List.mem_singleton.mp hd]; exact g.lt hc⟩
  above := fun c hc => by
    rcases List.mem_append.mp hc with hc | hc
    · exact g.above c hc
    · rw [List.mem_singleton.mp hc]; exact hS
  pairs := fun j c hj => by
    by_cases h1 : j < as.length
    · rw [List.getElem?_append_left h1] at hj
      obtain ⟨x', y', e1, e2, e3⟩ := g.pairs j c hj
      exact ⟨x', y', e1, e2, k c _ (g.above c (List.mem_of_getElem? hj)) e3⟩
    · rw [List.getElem?_append_right (by omega)] at hj
      by_cases h2 : j - as.length = 0
      · have e : j = as.length := by omega
        rw [h2] at hj
        have : h.objs.size = c := by simpa using hj
        subst this
        rw [e]
        exact ⟨x, y, hx, hy, hn⟩
      · obtain ⟨m, hm⟩ : ∃ m, j - as.length = m + 1 := ⟨j - as.length - 1, by omega⟩
        rw [hm] at hj
        simp at hj
theorem loopZ (hh : A.handled = none) (ha : a < n) (hb : b < n) (hnS : n + 5 ≤ S) (res : Value) {h₁ : Heap} (hm : min us.size vs.size ≤ sizeLine)
    (hR : ∀ h' tk acc c as, (∀ (d : Nat) o, d < n → h₁.get? d = some o → h'.get? d = some o) → h'.get? S = some (lisO acc c) → as.length = min us.size vs.size → Tups us vs S h' as → acc.toList = as.map Value.ref → R (.ok (.ret res)) { s with heap := h', toks := tk }) :
    ∀ (k i : Nat) (h : Heap) (tk c : Nat) (acc : Array Value) (as : List Addr), min us.size vs.size - i = k → i ≤ min us.size vs.size → ZSt t1 t2 n a b us vs S i h → (∀ (d : Nat) o, d < n → h₁.get? d = some o → h.get? d = some o) →
      h.get? S = some (lisO acc c) → acc.toList = as.map Value.ref → as.length = i → Tups us vs S h as → codeAny (model prog w) A (.builtin "list.extend.loop" ⟨[.ref S, .ref (n + 4), res], []⟩) R { s with heap := h, toks := tk } := by
  intro k
  induction k with
  | zero =>
    intro i h tk c acc as hk hi st hkeep hS hacc hal hG
    refine codeAny_builtin PySem.F.entry_extend_loop ?_
    rw [Around.under_plainId PySem.F.plain_extend_loop _]
    show wpAny _ A.in1 (pyNext (.ref (n + 4)) >>= _) _ _ _
    refine wpAny_bind (ZSt.fin (s := { s with heap := h, toks := tk }) (A := A.in1) hh ha hb st (by omega) (by omega) (by omega) fun h' tk' kp => ?_)
    refine wpAny_pure (hR h' tk' acc c as (fun d o hd e => kp d o (by omega) (by omega) (by omega) (by omega) (hkeep d o hd e)) (kp S _ (by omega) (by omega) (by omega) (by omega) hS) (by omega) ⟨hG.rise, hG.above, fun j d hj => ?_⟩ hacc)
    obtain ⟨x, y, e1, e2, e3⟩ := hG.pairs j d hj
    have := hG.above d (List.mem_of_getElem? hj)
    exact ⟨x, y, e1, e2, kp d _ (by omega) (by omega) (by omega) (by omega) e3⟩
  | succ k ih =>
    intro i h tk c acc as hk hi st hkeep hS hacc hal hG
    have hsz : acc.size = i := by rw [← Array.length_toList, hacc, List.length_map, hal]
    have hSl : S < h.objs.size := Heap.lt_size hS
    refine codeAny_builtin PySem.F.entry_extend_loop ?_
    rw [Around.under_plainId PySem.F.plain_extend_loop _]
    show wpAny _ A.in1 (pyNext (.ref (n + 4)) >>= _) _ _ _
    refine wpAny_bind (ZSt.next (s := { s with heap := h, toks := tk }) (A := A.in1) hh ha hb hSl hnS st (by omega) (by omega) fun x1 x2 h' tk' e1 e2 st' nt kp => ?_)
    replace nt : IsTupOf2 h' h.objs.size x1 x2 := nt
    have hS' : h'.get? S = some (lisO acc c) := kp S _ (by omega) (by omega) (by omega) (by omega) hS
    have up : ∀ (d : Nat) o, d ≠ S → h'.get? d = some o → (h'.update S (Obj.mapSeq (·.push (Value.ref h.objs.size)))).get? d = some o := fun d o hd e => (Heap.get?_update_other _ _ (Ne.symm hd)).trans e
    show wpAny _ A.in1 (updateSeq S (·.push (Value.ref h.objs.size)) >>= _) _ _ _
    refine wpAny_bind ?_
    refine wpAny_updateSeq hS' rfl (wpAny_pure ⟨plainId_quiet PySem.F.plain_extend_loop _, ih (i + 1) _ tk' _ (acc.push (Value.ref h.objs.size)) (as ++ [h.objs.size]) (by omega) (by omega) (st'.keep ha hb hnS up)
      (fun d o hd e => up d o (by omega) (kp d o (by omega) (by omega) (by omega) (by omega) (hkeep d o hd e))) (Heap.get?_update_self _ hS' rfl) (by rw [Array.toList_push, hacc, List.map_append]; rfl) (by rw [List.length_append, hal]; rfl)
      (hG.snoc (fun d o hd e => up d o (by omega) (kp d o (by omega) (by omega) (by omega) (by omega) e)) (by rw [hal]; exact e1) (by rw [hal]; exact e2) (up _ _ (by omega) nt) hSl)⟩) (by rw [hsz]; omega)
theorem callZ {Q : Value → Shared → Prop} (hh : A.handled = none) (ha : a < n) (hb : b < n) (hn : n + 5 ≤ s.heap.objs.size) (hm : min us.size vs.size ≤ sizeLine) (st : ZSt t1 t2 n a b us vs s.heap.objs.size 0 s.heap) (hz : IsZip s.heap (n + 4) (n + 2) (n + 3) .none)
    (hQ : ∀ h' tk acc c as, (∀ (d : Nat) o, d < n → s.heap.get? d = some o → h'.get? d = some o) → h'.get? s.heap.objs.size = some (lisO acc c) → as.length = min us.size vs.size → Tups us vs s.heap.objs.size h' as → acc.toList = as.map Value.ref → Q (.ref s.heap.objs.size) { s with heap := h', toks := tk }) :
    wpAny (model prog w) A (call (.type "list") [.ref (n + 4)]) Q E s := by
  generalize hSS : s.heap.objs.size = S at *
  have hSz : S ≠ n + 4 := by omega
  refine callType_codes (Q₁ := fun obj s₁ => obj = .ref s.heap.objs.size ∧ s₁ = { s with heap := s.heap.push { cls := .type "list", data := .seq #[] } }) PySem.F.called_list (PySem.F.typeCall_list_1 _) PySem.F.entry_list_init
    (code_list_new _ ⟨rfl, rfl⟩) fun obj s₁ h₁ => ?_
  obtain ⟨rfl, rfl⟩ := h₁
  rw [hSS]
  have hS : (s.heap.push { cls := .type "list", data := .seq #[] }).get? S = some { cls := .type "list", data := .seq #[] } := by rw [← hSS]; exact Heap.get?_push_size _ rfl
  have k1 : ∀ (d : Nat) o, s.heap.get? d = some o → (s.heap.push { cls := .type "list", data := .seq #[] }).get? d = some o := fun d o e => Heap.get?_push_of_some _ e
  refine ⟨⟨_, hS, rfl⟩, PySem.F.args_list_init_2 _ _, ?_⟩
  show wpAny _ A.in1.in1 (do let old ← Builtin.List.listItems (.ref S); Builtin.List.listUpdate (.ref S) (fun _ => #[]); letGo old.toList.reverse; Builtin.List.listExtendWith (.ref S) (.ref (n + 4)) .none) _ _ _
  refine wpAny_bind ?_
  unfold Builtin.List.listItems
  refine wpAny_bind (wpAny_seqItems hS rfl (wpAny_pure ?_))
  show wpAny _ A.in1.in1 (updateSeq S (fun _ => #[]) >>= fun _ => letGo (#[] : Array Value).toList.reverse >>= fun _ => Builtin.List.listExtendWith (.ref S) (.ref (n + 4)) .none) _ _ _
  refine wpAny_bind (wpAny_updateSeq hS rfl ?_)
  have hS2 := Heap.get?_update_self (Obj.mapSeq (fun _ => (#[] : Array Value))) hS rfl
  refine wpAny_bind (wpAny_letGo ?_)
  unfold Builtin.List.listExtendWith
  have up : ∀ {h : Heap} (g : Obj → Obj), (∀ (d : Nat) o, d ≠ S → s.heap.get? d = some o → h.get? d = some o) → ∀ (d : Nat) o, d ≠ S → s.heap.get? d = some o → (h.update S g).get? d = some o := fun g q d o hd e =>
    (Heap.get?_update_other _ _ (Ne.symm hd)).trans (q d o hd e)
  have k1' : ∀ (d : Nat) o, d ≠ S → s.heap.get? d = some o → (s.heap.push { cls := .type "list", data := .seq #[] }).get? d = some o := fun d o _ e => k1 d o e
  have k2 := up (Obj.mapSeq (fun _ => (#[] : Array Value))) k1'
  have hT : ∀ {h : Heap}, (∀ (d : Nat) o, d ≠ S → s.heap.get? d = some o → h.get? d = some o) → IsZip h (n + 4) (n + 2) (n + 3) .none := fun q => q (n + 4) _ (Ne.symm hSz) hz
  refine wpAny_bind (wpAny_typeOf (T := "zip") ⟨_, hT k2, rfl⟩ ?_)
  have e1 : Builtin.List.listSameRef (.ref S) (.ref (n + 4)) = false := by simp [Builtin.List.listSameRef, hSz]
  have e2 : (Value.type "zip" == Value.type "list") = false := by decide
  have e3 : (Value.type "zip" == Value.type "tuple") = false := by decide
  simp only [e1, e2, e3, Bool.or_false, Bool.false_eq_true, if_false]
  refine wpAny_bind (wpAny_pyIter_zip (hT k2) ?_)
  refine wpAny_bind (wpAny_holding ?_)
  unfold Builtin.List.listLengthHint
  refine wpAny_bind (wpAny_specialOf (T := "zip") ⟨_, hT k2, rfl⟩ zip_nolen ?_)
  show wpAny _ A.in1.in1 (specialOf (Value.ref (n + 4)) (Str.ofString "__length_hint__") >>= _) _ _ _
  refine wpAny_bind (wpAny_specialOf (T := "zip") ⟨_, hT k2, rfl⟩ zip_nohint ?_)
  refine wpAny_pure ?_
  show wpAny _ A.in1.in1 (rule "list.extend.makes-room" >>= fun _ => Builtin.List.listTouch (.ref S) >>= fun _ => again (.builtin "list.extend.loop" ⟨[.ref S, .ref (n + 4), .none], []⟩)) _ _ _
  refine wpAny_bind (wpAny_rule (wpAny_bind ?_))
  show wpAny _ A.in1.in1 (updateSeq S (·.push .none) >>= fun _ => updateSeq S (·.pop)) _ _ _
  refine wpAny_bind (wpAny_updateSeq hS2 rfl ?_)
  have hS3 := Heap.get?_update_self (Obj.mapSeq (·.push Value.none)) hS2 rfl
  refine wpAny_updateSeq (hz := by seq_fits) hS3 rfl ?_
  have hS4 := Heap.get?_update_self (Obj.mapSeq (·.pop)) hS3 rfl
  have k4 := up (Obj.mapSeq (·.pop)) (up (Obj.mapSeq (·.push Value.none)) k2)
  refine wpAny_pure ⟨plainId_quiet PySem.F.plain_extend_loop _, ?_⟩
  exact loopZ (t1 := t1) (t2 := t2) (us := us) (vs := vs) (A := A.in1) (s := s) (h₁ := s.heap) hh ha hb hn .none hm (fun h' tk acc c as kp hS' hl hG hacc => ⟨rfl, hQ h' tk acc c as kp hS' hl hG hacc⟩)
    _ 0 _ _ _ #[] [] (Nat.sub_zero _) (Nat.zero_le _) (st.keep ha hb hn k4) (fun d o hd e => k4 d o (by omega) e) hS4 rfl rfl ⟨List.Pairwise.nil, (fun _ ha => nomatch ha), fun j c hj => by simp at hj⟩
end
end DF
namespace DF
open PySem PySem.Spec PyProof.Rows L2 Evl
/-! ### list(zip(x, y)) as an expression -/
def putP (H : Hp) : List Addr → List (V × V) → Hp
  | t :: ts, p :: ps => upd (putP H ts ps) t (.tup [p.1, p.2])
  | _, _ => H
theorem putP_off {H : Hp} {c : Addr} : ∀ {as : List Addr} {ps : List (V × V)}, c ∉ as → putP H as ps c = H c
  | [], _, _ => by unfold putP; rfl
  | t :: ts, [], _ => by unfold putP; rfl
  | t :: ts, p :: ps, h => by
    unfold putP
    rw [upd_ne (fun e => h (by rw [e]; exact List.mem_cons_self ..)), putP_off (fun z => h (List.mem_cons_of_mem _ z))]
theorem putP_at {H : Hp} : ∀ {as : List Addr} {ps : List (V × V)}, as.length = ps.length → as.Nodup → ∀ (j : Nat) (t : Addr), as[j]? = some t → ∃ q, ps[j]? = some q ∧ putP H as ps t = some (.tup [q.1, q.2])
  | [], _, _, _, j, t, h => by simp at h
  | a :: as, [], h, _, _, _, _ => by simp at h
  | a :: as, p :: ps, hl, nd, 0, t, h => by
    have : a = t := by simpa using h
    subst this
    exact ⟨p, rfl, by unfold putP; rw [upd_same]⟩
  | a :: as, p :: ps, hl, nd, j + 1, t, h => by
    have h' : as[j]? = some t := by simpa using h
    obtain ⟨q, e1, e2⟩ := putP_at (H := H) (by simpa using hl) (List.nodup_cons.mp nd).2 j t h'
    have hne : t ≠ a := fun z => (List.nodup_cons.mp nd).1 (by rw [← z]; exact List.mem_of_getElem? h')
    exact ⟨q, by simpa using e1, by unfold putP; rw [upd_ne hne]; exact e2⟩
theorem refs_vals : ∀ as : List Addr, Vals (as.map V.ref) (as.map Value.ref)
  | [] => .nil
  | _ :: as => .cons rfl (refs_vals as)
theorem laidZ {X : Cx} {pins : List (Addr × Obj)} {σ : L2.St} {H : Hp} {s : Shared} {h' : Heap} {tk : Nat} {S : Addr} {us vs : List Value} {xs ys : List V} {acc : Array Value} {c : Nat} {as : List Addr} (I : Inv X pins σ H s) (hx : Vals xs us) (hy : Vals ys vs)
    (hS0 : s.heap.objs.size ≤ S) (hk : ∀ (d : Nat) o, s.heap.get? d = some o → h'.get? d = some o) (hS : h'.get? S = some (lisO acc c)) (hl : as.length = min us.length vs.length) (hz : as.length ≤ sizeLine) (hG : Tups us.toArray vs.toArray S h' as) (hacc : acc.toList = as.map Value.ref) :
    ∃ H' : Hp, (∀ d o, H d = some o → H' d = some o) ∧ H S = none ∧ (∀ t ∈ as, H t = none) ∧ S ∉ as ∧ H' S = some (.lst (as.map V.ref)) ∧ (∀ (j : Nat) t, as[j]? = some t → ∃ q, (xs.zip ys)[j]? = some q ∧ H' t = some (.tup [q.1, q.2])) ∧ as.length = (xs.zip ys).length ∧ Inv X pins σ H' { s with heap := h', toks := tk } := by
  have lx := hx.length
  have ly := hy.length
  have hlz : as.length = (xs.zip ys).length := by rw [List.length_zip]; omega
  have hSn : S ∉ as := fun z => Nat.lt_irrefl _ (hG.above _ z)
  have nd : as.Nodup := List.Pairwise.imp (fun {a b} (h : a < b) => Nat.ne_of_lt h) hG.rise
  have new : ∀ t ∈ as, H t = none := fun t ht => I.hok.fresh (Nat.le_of_lt (Nat.lt_of_le_of_lt hS0 (hG.above t ht)))
  have newS : H S = none := I.hok.fresh hS0
  have atP := putP_at (H := upd H S (.lst (as.map V.ref))) hlz nd
  have off : ∀ d, d ∉ as → d ≠ S → putP (upd H S (.lst (as.map V.ref))) as (xs.zip ys) d = H d := fun d h1 h2 => by rw [putP_off h1, upd_ne h2]
  have low : ∀ d o, s.heap.get? d = some o → d ∉ as ∧ d ≠ S := fun d o e => by
    have hd := Heap.lt_size e
    exact ⟨fun z => absurd (hG.above d z) (Nat.not_lt.mpr (Nat.le_of_lt (Nat.lt_of_lt_of_le hd hS0))), Nat.ne_of_lt (Nat.lt_of_lt_of_le hd hS0)⟩
  have kp : ∀ d u, H d = some u → putP (upd H S (.lst (as.map V.ref))) as (xs.zip ys) d = some u := fun d u e => by
    rw [off d (fun z => by rw [new d z] at e; cases e) (fun z => by rw [z, newS] at e; cases e)]
    exact e
  have eS : putP (upd H S (.lst (as.map V.ref))) as (xs.zip ys) S = some (.lst (as.map V.ref)) := by rw [putP_off hSn, upd_same]
  refine ⟨putP (upd H S (.lst (as.map V.ref))) as (xs.zip ys), kp, newS, new, hSn, eS, atP, hlz, ?_⟩
  have un : Un (frs X.stack) [] H (putP (upd H S (.lst (as.map V.ref))) as (xs.zip ys)) s.heap h' := {
    keep := fun d o q _ _ _ => hk d o q
    slot := fun d o q _ _ _ => ⟨o.slots, hk d o q⟩
    free := fun d o q m _ => by
      obtain ⟨z1, z2⟩ := low d o q
      rw [off d z1 z2]; exact m
    there := fun d o q _ => ⟨o, hk d o q⟩
    tups := fun d l q => kp d _ q
    frzs := fun d o u q => kp d _ q
    tbls := fun d ps q => ⟨#[], by rw [kp d _ q]; simp⟩ }
  refine I.call' (ch := []) rfl un (fun d u q => ?_) I.bare fun d z => by simp at z
  by_cases hd : d ∈ as
  · obtain ⟨j, hj⟩ := List.mem_iff_getElem?.mp hd
    obtain ⟨p, e1, e2⟩ := atP j d hj
    obtain ⟨x, y, f1, f2, f3⟩ := hG.pairs j d hj
    rw [e2] at q
    cases q
    have z1 : xs[j]? = some p.1 ∧ ys[j]? = some p.2 := List.getElem?_zip_eq_some.mp e1
    obtain ⟨u1, g1, r1⟩ := hx.get z1.1
    obtain ⟨u2, g2, r2⟩ := hy.get z1.2
    have w1 : u1 = x := Option.some.inj (g1.symm.trans (by simpa using f1))
    have w2 : u2 = y := Option.some.inj (g2.symm.trans (by simpa using f2))
    subst w1 w2
    exact ⟨by show 2 ≤ sizeLine; decide, [u1, u2], .cons r1 (.cons r2 .nil), ⟨_, f3, rfl, _, rfl⟩⟩
  · by_cases hd2 : d = S
    · subst hd2
      rw [eS] at q
      cases q
      refine ⟨by rw [List.length_map]; exact hz, acc.toList, c, by rw [hacc]; exact refs_vals as, ?_⟩
      rw [Array.toArray_toList]
      exact hS
    · rw [off d hd hd2] at q
      exact (I.hok d u q).stay (fun d v _ y => hk d v y) (fun d y => kp d _ y) fun d xs y => kp d _ y
def tListZ (K : PySem.W.Frag) (ta : TA) : TE := fun σ H Q => ta σ H fun ws H1 => ∃ (t1 t2 : Bool) (a b : Addr) (xs ys : List V), ws = [.ref a, .ref b] ∧ SqB t1 K H1 a xs ∧ SqB t2 K H1 b ys ∧
  ∀ (H' : Hp) (p : Addr) (ts : List Addr), (∀ d o, H1 d = some o → H' d = some o) → H1 p = none → (∀ t ∈ ts, H1 t = none) → p ∉ ts → H' p = some (.lst (ts.map V.ref)) → (∀ (j : Nat) t, ts[j]? = some t → ∃ q, (xs.zip ys)[j]? = some q ∧ H' t = some (.tup [q.1, q.2])) → ts.length = (xs.zip ys).length → Q (.ref p) H'
theorem sqB_len {X : Cx} {pins : List (Addr × Obj)} {σ : L2.St} {H : Hp} {s : Shared} (I : Inv X pins σ H s) {t : Bool} {a : Addr} {xs : List V} (q : SqB t X.K H a xs) : xs.length ≤ sizeLine := by
  cases t
  · obtain ⟨_, _, _, z⟩ := I.list q
    exact z
  · obtain ⟨_, _, _, z⟩ := I.tuple q
    exact z
section
variable {X : Cx} {e e2 : Expr} {ta : TA} {p p2 pos pos2 : Pos}
theorem pe_listZ (hc : X.calm = true) (hg : Gl X "list") (hm : X.mg "list" = none) (hg2 : Gl X "zip") (hm2 : X.mg "zip" = none) (ha : PA X [e, e2] ta)
    (hs : starEach [.Call (.Name "zip" p2) [e, e2] [] pos2] X.env = (false, eval (.Call (.Name "zip" p2) [e, e2] [] pos2) X.env) :: starEach [] X.env := by rfl)
    (hs2 : starEach [e, e2] X.env = (false, eval e X.env) :: starEach [e2] X.env := by rfl) (hpl2 : (backTo pos2 (starEach [e2] X.env)).any (·.1) = false := by rfl) :
    PE X (.Call (.Name "list" p) [.Call (.Name "zip" p2) [e, e2] [] pos2] [] pos) (tListZ X.K ta) := by
  refine ⟨fun pins s σ H Q I hq => ?_⟩
  have args := ha.run pos2 pins s σ H _ I hq
  refine wpAny_Call_Name_kw (ld_blt I hg hm PyProof.Rows.boot_list ?_)
  refine PyProof.Rows.callWith_type1 ?_ hs rfl
  rw [hs]
  show wpAny _ _ (spliced ((false, eval (.Call (.Name "zip" p2) [e, e2] [] pos2) X.env) :: backTo pos (starEach [] X.env))) _ _ s
  refine Calls.spliced_cons ?_
  refine Call_ (ld_blt I hg2 hm2 PyProof.Rows.boot_zip (PyProof.Rows.callWith_type1 (thn args ?_) hs2 hpl2))
  rintro us0 s1 ⟨ws, H1, I1, rv, t1, t2, a, b, xs, ys, rfl, qa, qb, q⟩
  obtain ⟨u1, r1, rfl, ra, rv⟩ : ∃ u1 r1, us0 = u1 :: r1 ∧ RelV (.ref a) u1 ∧ Vals [.ref b] r1 := by cases rv with | cons x y => exact ⟨_, _, rfl, x, y⟩
  obtain ⟨u2, rfl, rb⟩ : ∃ u2, r1 = [u2] ∧ RelV (.ref b) u2 := by cases rv with | cons x y => cases y; exact ⟨_, rfl, x⟩
  cases ra
  cases rb
  obtain ⟨us, ru, pa, la⟩ := sqB_at I1 qa
  obtain ⟨vs, rv', pb, lb⟩ := sqB_at I1 qb
  have zx := sqB_len I1 qa
  have lx := ru.length
  have ly := rv'.length
  refine zip_begins2 (begB t1 a us.toArray) (begB t2 b vs.toArray) pa pb fun h' z i1 o1 e1 e3 hsz k => ?_
  refine Calls.spliced_nil ?_
  have st : ZSt t1 t2 s1.heap.objs.size a b us.toArray vs.toArray h'.objs.size 0 h' := ⟨i1, ⟨iterO_at e1, arrB_at pa fun o q => k a o q⟩, ⟨iterO_at e3, arrB_at pb fun o q => k b o q⟩, .inl ⟨rfl, z, _, _, o1⟩⟩
  refine callZ (s := { s1 with heap := h' }) (n := s1.heap.objs.size) (us := us.toArray) (vs := vs.toArray) (I1.ok.hd hc) la lb (by show _ ≤ h'.objs.size; rw [hsz]; exact Nat.le_refl _) (by rw [List.size_toArray, List.size_toArray]; omega) st z fun h2 tk acc c as kp hS hl hG hacc => ?_
  obtain ⟨H', k1, k2, k3, k4, k5, k6, k7, J⟩ := laidZ (tk := tk) (S := h'.objs.size) I1 ru rv' (by rw [hsz]; omega) (fun d o hd => kp d o (Heap.lt_size hd) (k d o hd)) hS (by rw [hl, List.size_toArray, List.size_toArray]) (by rw [hl, List.size_toArray, List.size_toArray]; omega) hG hacc
  exact ⟨.ref _, H', J, rfl, q H' _ as k1 k2 k3 k4 k5 k6 k7⟩
end
def fZ2 : List D → Option (List D)
  | [x, y] => match seqB x, seqB y with
    | some (_, ds), some (_, es) => some (zipD ds es)
    | _, _ => none
  | _ => none
theorem fZ2_some {l : List D} {r : List D} (h : fZ2 l = some r) : ∃ x y t1 t2 ds es, l = [x, y] ∧ seqB x = some (t1, ds) ∧ seqB y = some (t2, es) ∧ r = zipD ds es := by
  unfold fZ2 at h
  split at h
  · split at h
    · rename_i e1 e2
      cases h
      exact ⟨_, _, _, _, _, _, rfl, e1, e2, rfl⟩
    · cases h
  · cases h
def mListZ (mr : MA) : ML := fun ρ => (mr ρ).bind fun x => (lft (fZ2 x.1)).bind fun ds => .ok (.lst ds, x.2)
section
variable {X : Cx} {cl : Nat → Addr} {Z : ZK} {K : PySem.W.Frag} {a b : Expr} {mr : MA} {p p2 pos pos2 : Pos}
theorem rps_zip {Hv Hw : Hp} (ex : Ex Hv Hw) : ∀ {ds es : List D} {xs ys : List V} {ts : List Addr}, Rps K cl Hv ds xs → Rps K cl Hv es ys → (∀ (j : Nat) t, ts[j]? = some t → ∃ q, (xs.zip ys)[j]? = some q ∧ Hw t = some (.tup [q.1, q.2])) → ts.length = (xs.zip ys).length → Rps K cl Hw (zipD ds es) (ts.map V.ref)
  | [], _, xs, ys, ts, h, _, _, hl => by
    simp only [Rps] at h; subst h
    have : ts = [] := List.length_eq_zero_iff.mp (by simpa using hl)
    subst this
    exact Rps.nil
  | d :: ds, [], xs, ys, ts, _, h, _, hl => by
    simp only [Rps] at h; subst h
    have : ts = [] := List.length_eq_zero_iff.mp (by simpa using hl)
    subst this
    exact Rps.nil
  | d :: ds, e :: es, xs, ys, ts, h, h', ht, hl => by
    simp only [Rps] at h h'
    obtain ⟨v, r, rfl, h1, h2⟩ := h
    obtain ⟨v', r', rfl, h3, h4⟩ := h'
    cases ts with
    | nil => simp at hl
    | cons t ts =>
      obtain ⟨q, e1, e2⟩ := ht 0 t rfl
      have : (v, v') = q := by simpa using e1
      subst this
      refine Rps.cons ?_ (rps_zip ex h2 h4 (fun j u hj => ?_) (by simpa using hl))
      · simp only [Rp]
        exact ⟨_, _, rfl, .inl (.inl e2), Rps.cons (Rp.ex ex _ _ h1) (Rps.cons (Rp.ex ex _ _ h3) Rps.nil)⟩
      · obtain ⟨q, e3, e4⟩ := ht (j + 1) u (by simpa using hj)
        exact ⟨q, by simpa using e3, e4⟩
theorem dl_listZ (z : ZOk X.K cl Z) (hc : X.calm = true) (hm : X.mg "list" = none) (hm2 : X.mg "zip" = none) (ha : PA X [a, b] (wA X.K cl Z mr)) (hg : Gl X "list" := by rfl) (hg2 : Gl X "zip" := by rfl)
    (hs : starEach [.Call (.Name "zip" p2) [a, b] [] pos2] X.env = (false, eval (.Call (.Name "zip" p2) [a, b] [] pos2) X.env) :: starEach [] X.env := by rfl)
    (hs2 : starEach [a, b] X.env = (false, eval a X.env) :: starEach [b] X.env := by rfl) (hpl2 : (backTo pos2 (starEach [b] X.env)).any (·.1) = false := by rfl) :
    PE X (.Call (.Name "list" p) [.Call (.Name "zip" p2) [a, b] [] pos2] [] pos) (wL X.K cl Z (mListZ mr)) :=
  (pe_listZ hc hg hm hg2 hm2 ha hs hs2 hpl2).wk fun σ H Q ⟨ρ, O, r, g⟩ => wA_then z r g fun ds ρ1 vs H1 p1 g1 => by
    obtain ⟨ds', e, g2⟩ := Gd.lft g1
    simp only at e
    obtain ⟨x, y, t1, t2, d1, d2, rfl, e1, e2, rfl⟩ := fZ2_some e
    obtain ⟨v1, v2, rfl, h1, h2⟩ := rps2 p1.val
    obtain ⟨a1, w1, rfl, s1, r1⟩ := seqB_rp h1 e1
    obtain ⟨a2, w2, rfl, s2, r2⟩ := seqB_rp h2 e2
    refine ⟨t1, t2, a1, a2, w1, w2, rfl, sqH_hide s1, sqH_hide s2, fun H' t ts ex ht hts nt e2 pr hlen => ?_⟩
    let H2 : Hp := fun c => if c = t then none else H' c
    have h12 : Ex H1 H2 := fun c o hb => by
      have : c ≠ t := fun z => by rw [z, ht] at hb; cases hb
      show (if c = t then none else H' c) = some o
      rw [if_neg this]
      exact ex c o hb
    have ht2 : H2 t = none := if_pos rfl
    have hH : upd H2 t (.lst (ts.map V.ref)) = H' := by
      funext c
      by_cases hb : c = t
      · subst hb; rw [upd_same, e2]
      · rw [upd_ne hb]; exact if_neg hb
    have p2 : PoT X.K cl O ρ σ H ρ1 H2 := ⟨p1.po.trans (Po.of_ex p1.po.rel h12), p1.sh⟩
    have hx : Ex (vis O ρ1 σ H1) (vis O ρ1 σ H2) := hide_of_ex h12
    have := g2 t _ (PoA.newL r p2 ht2 (rps_zip hx r1 r2 (fun j u hj => by
      obtain ⟨q, f1, f2⟩ := pr j u hj
      have hum : u ∈ ts := List.mem_of_getElem? hj
      have hu : u ≠ t := fun z => nt (by rw [← z]; exact hum)
      refine ⟨q, f1, hide_some.mpr ⟨fun z => p1.po.rel.hid_some z (hts u hum), ?_⟩⟩
      show (if u = t then none else H' u) = _
      rw [if_neg hu]
      exact f2) hlen))
    rw [hH] at this
    exact this
end
end DF
namespace DF
open PySem PySem.Spec PyProof.Rows L2 Evl
/-! ### d.update(e) -/
def updK (kvs more : List (Key × V)) : List (Key × V) := more.foldl (fun acc kv => putK acc kv.1 kv.2) kvs
theorem updK_kv : ∀ {more : List (Key × V)} {ms : List (Key × Value)} {kvs : List (Key × V)} {vs : List (Key × Value)}, KV more ms → KV kvs vs → KV (updK kvs more) (merged vs ms)
  | _, _, _, _, .nil, h => h
  | p :: _, q :: _, _, _, .cons r t, h => by
    show KV (updK (putK _ p.1 p.2) _) (merged (stored _ q.1 q.2) _)
    rw [← r.1]
    exact updK_kv t (h.put p.1 r.2)
theorem updK_len : ∀ (more kvs : List (Key × V)), (updK kvs more).length ≤ kvs.length + more.length
  | [], kvs => by simp [updK]
  | p :: more, kvs => by
    have h1 := updK_len more (putK kvs p.1 p.2)
    have h2 := length_putK kvs p.1 p.2
    show (updK (putK kvs p.1 p.2) more).length ≤ _
    simp only [List.length_cons]
    omega
def rUpd : V → List V → Hp → VK → Prop := fun x xs H Q => ∃ (a b : Addr) (kvs more : List (Key × V)), x = .ref a ∧ xs = [.ref b] ∧ H a = some (.dK kvs) ∧ H b = some (.dK more) ∧ a ≠ b ∧ kvs.length + more.length ≤ sizeLine ∧ Q .non (upd H a (.dK (updK kvs more)))
theorem mt_upd {X : Cx} : MtR X "dict.update" rUpd := by
  intro pins s σ H x xs v us Q I rx rv h
  obtain ⟨a, b, kvs, more, rfl, rfl, ha, hb, hab, hz, q⟩ := h
  cases rx
  obtain ⟨u, rfl, ru⟩ := rv.one
  cases ru
  obtain ⟨z, hd, vs, rel, dd⟩ := dk_of I.hok ha
  obtain ⟨z2, hd2, ms, rel2, dd2⟩ := dk_of I.hok hb
  have l1 := rel.length
  have l2 := rel2.length
  refine call_meetsIn PySem.F.slot_dict_update dd.typeIs PySem.F.entry_dict_update (PySem.F.args_dict_update_2 _ _) (meets_dict_update (mixKind X.prog X.w) a b hab hd2) ⟨vs, ms, dd, dd2, by omega, fun h' dd' _ hs => ?_⟩
  have he : ∃ q, h'.get? a = some q := let ⟨q, _, _, hq, _⟩ := dd'; ⟨q, hq⟩
  have hl := updK_len more kvs
  exact ⟨.non, _, d_write (t' := s.toks) I (by rw [ha]; exact True.intro) hs he (dk_new (by omega) hd (updK_kv rel2 rel) dd'), rfl, q⟩
section
variable {X : Cx} {cl : Nat → Addr} {Z : ZK} {K : PySem.W.Frag} {a e : Expr} {me : ME} {pos : Pos}
def updD (ds es : List (Str × D)) : List (Str × D) := es.foldl (fun acc kv => putD acc kv.1 kv.2) ds
theorem rkv_upd {Hv : Hp} : ∀ {es ds : List (Str × D)} {more ws : List (Key × V)}, Rkv K cl Hv es more → Rkv K cl Hv ds ws → Rkv K cl Hv (updD ds es) (updK ws more)
  | [], ds, more, ws, h, h' => by
    simp only [Rkv] at h; subst h
    exact h'
  | (k, d) :: es, ds, more, ws, h, h' => by
    simp only [Rkv] at h
    obtain ⟨v, r, rfl, h1, h2⟩ := h
    show Rkv K cl Hv (updD (putD ds k d) es) (updK (putK ws (Sum.inr k) v) r)
    exact rkv_upd h2 (rkv_put h1 h')
def mUpd (i : Nat) (me : ME) : MS := fun ρ => (lft (ctD ρ i)).bind fun _ => (me ρ).bind fun y => (lft (match y.1 with | .dct es => some es | _ => none)).bind fun es => (lft (ctD y.2 i)).bind fun ds =>
  if ds.length + es.length ≤ sizeLine then .ok (.nxt (setCt y.2 i (.dct (updD ds es)))) else .bad
theorem ds_upd {apos cpos : Pos} (z : ZOk X.K cl Z) (i : Nat) (ho : PE X a (tVar i)) (he : PE X e (wE X.K cl Z me)) (hbase : attributeBase a "update" X.env (eval a X.env) = eval a X.env := by rfl)
    (hfew : ((backTo cpos (starEach [e] X.env)).all (fun x => !x.1) && (backToKw cpos (keywordEach [] X.env)).all (fun x => x.1.isSome) && decide ([e].length + ([] : List Keyword).length + (if ([] : List Keyword).isEmpty then 0 else 1) < 30)) = true := by rfl)
    (hline : (apos.endLine == cpos.line) = true := by rfl) (hs : starEach [e] X.env = (false, eval e X.env) :: starEach [] X.env := by rfl) (hplain : (backTo cpos (starEach [] X.env)).any (·.1) = false := by rfl) (hsw : swapsWith (.Call (.Attribute a "update" apos) [e] [] cpos) none pos.line X.env = pure false := by rfl) :
    PS X (.Expr (.Call (.Attribute a "update" apos) [e] [] cpos) pos) (wS X.K cl Z (mUpd i me)) :=
  (ps_expr (pe_bm PySem.F.plainAttrs_dict PySem.F.slot_dict_update PySem.F.type_dict_update mt_upd ho (pa_cons he pa_nil hs) hbase hfew hline hs hplain) hsw).wk fun D σ H ⟨ρ, O, r, q⟩ => by
    obtain ⟨ds0, hc0, q⟩ := Gd.lft q
    obtain ⟨p, vs0, hp, h1, _⟩ := r.dct hc0
    refine ⟨.ref p, hp, .inr (.inr (.inl ⟨rfl, .inl ⟨_, h1⟩⟩)), wE_then z r q fun d ρ1 v H1 p1 q1 => ?_⟩
    obtain ⟨es, he', q2⟩ := Gd.lft q1
    obtain ⟨ds, hc, q3⟩ := Gd.lft q2
    simp only at hc q3 he'
    cases d <;> simp only at he' <;> try (cases he'; done)
    cases he'
    obtain ⟨p', hp', ⟨vs, h2, h3⟩, hid'⟩ := p1.po.rel.ct (ctD_of hc)
    rw [hp] at hp'; cases hp'
    split at q3
    case isFalse => exact q3.elim
    rename_i hz
    have hv := p1.val
    simp only [Rp] at hv
    obtain ⟨b, ms, rfl, hb, hr⟩ := hv
    have hne : p ≠ b := fun z => by
      subst z
      exact (hide_some.mp hb).1 (p1.po.rel.mu_hid ⟨i, hid', hp⟩)
    refine ⟨p, b, vs, ms, rfl, rfl, h2, hide_at hb, hne, by rw [← rkv_len h3, ← rkv_len hr]; exact hz, q3 σ _ (p1.po.trans (Po.mut p1.po.rel (ctD_of hc) hp ⟨_, upd_same, rkv_upd hr h3⟩))⟩
end
end DF
namespace DF
open PySem PySem.Spec PyProof.Rows L2 Evl
/-! ### a def that may change its first parameter and answers with a new list or dict -/
section
variable {K : PySem.W.Frag} {cl : Nat → Addr} {O : Addr → Prop} {Z : ZK} {ρ ρ' ρ1 : Env} {σ σ' σ1 : L2.St} {H H' H1 : Hp} {X : Cx} {st : Stmt} {sts : List Stmt} {e : Expr} {pos : Pos}
abbrev MSP := Env → Res (Nat × Env)
def wSP (K : PySem.W.Frag) (cl : Nat → Addr) (Z : ZK) (m : MSP) : TS := fun D σ H => ∃ ρ O, Rel K cl O ρ σ H ∧ Gd (m ρ) (fun x => ∀ σ' H' a, Po K cl O ρ σ H x.2 σ' H' → kd x.2 x.1 = 1 → σ'[x.1]? = some (some (.ref a)) → D.rt (.ref a) H') (Z O ρ σ H)
def mRetO (i : Nat) : MSP := fun ρ => if kd ρ i = 1 then .ok (i, ρ) else .bad
theorem ds_retO (i : Nat) (ho : PE X e (tVar i)) : PS X (.Return (some e) pos) (wSP X.K cl Z (mRetO i)) :=
  (ps_ret ho).wk fun D σ H ⟨ρ, O, r, g⟩ => by
    unfold mRetO at g
    split at g
    case isFalse => exact g.elim
    rename_i hk
    obtain ⟨c, e1⟩ : ∃ c, ρ[i]? = some (.own c) := by
      unfold kd at hk
      split at hk
      · rename_i c q; exact ⟨c, q⟩
      · cases hk
      · cases hk
    obtain ⟨a, h1, _, _⟩ := r.at_ i _ e1
    exact ⟨.ref a, h1, g σ H a (Po.refl r) hk h1⟩
def mSeqP (m1 : MS) (m2 : MSP) : MSP := fun ρ => (m1 ρ).bind fun o => match o with
  | .nxt ρ' => m2 ρ'
  | _ => .bad
theorem dsp_one {m : MSP} (h : PS X st (wSP X.K cl Z m)) : PSs X [st] (wSP X.K cl Z m) := pss_one h
theorem dsp_cons {m1 : MS} {m2 : MSP} (z : ZOk X.K cl Z) (h1 : PS X st (wS X.K cl Z m1)) (h2 : PSs X sts (wSP X.K cl Z m2)) : PSs X (st :: sts) (wSP X.K cl Z (mSeqP m1 m2)) :=
  (pss_cons h1 h2).wk fun D σ H ⟨ρ, O, r, g⟩ => by
    unfold mSeqP at g
    refine ⟨ρ, O, r, (Gd.bind.mp g).mono (fun o q => ?_) fun _ _ _ w => w⟩
    cases o with
    | nxt ρ1 => exact fun σ1 H1 p => ⟨ρ1, O, p.rel, q.mono (fun x q2 σ' H' a b => q2 σ' H' a (p.trans b)) fun c d ρ' w => z.mono r p w⟩
    | ret d ρ' => exact q.elim
    | brk ρ' => exact q.elim
    | cnt ρ' => exact q.elim
def spFP (K : PySem.W.Frag) (cl : Nat → Addr) (n : Nat) (F : ML) : Sp := fun vs H Q _ => vs.length = n ∧ wL K cl Z0 F (vs.map some) H Q
def mFunP (n : Nat) (m : MSP) : ML := fun ss => if noOwn ss = true then (m (ss ++ List.replicate (n - ss.length) .un)).bind fun x => match x.2[x.1]? with
    | some (.own c) => .ok (c, fin ss x.2)
    | _ => .bad
  else .bad
theorem fin_kd (ss ρ' : Env) : ∀ i, kd ss i = kd (fin ss ρ') i := fun i => by
  unfold kd
  rw [fin_get]
  cases e : ss[i]? with
  | none => rfl
  | some s =>
    cases s with
    | pin c =>
      simp only [Option.map_some, finS]
      split <;> rename_i h <;> split at h <;> first | rfl | cases h | (rename_i h2; exact absurd rfl (h2 _)) | skip
      all_goals simp_all
    | _ => rfl
theorem fin_backP {ss ρ' : Env} {vs : List V} {σ0 σ' : L2.St} {n i : Nat} {c : Ct} {a : Addr} (no : noOwn ss = true) (r : Rel K cl O ss (vs.map some) H) (hσ : ∀ i, i < ss.length → σ0[i]? = (vs.map some)[i]?)
    (r0 : Rel K cl O (ss ++ List.replicate n .un) σ0 H) (p : Po K cl O (ss ++ List.replicate n .un) σ0 H ρ' σ' H') (hi : ρ'[i]? = some (.own c)) (ha : σ'[i]? = some (some (.ref a))) : PoL K cl O ss (vs.map some) H c (fin ss ρ') a H' := by
  have hk1 : kd ρ' i = 1 := kd_own hi
  obtain ⟨a', h1, nO, hrc⟩ := p.rel.at_ i _ hi
  rw [ha] at h1; cases h1
  have lt : ∀ i, kd ss i ≠ 0 → i < ss.length := fun i hk => by
    by_cases h : i < ss.length
    · exact h
    · exact absurd (kd_none (List.getElem?_eq_none (by omega))) hk
  have kf := fin_kd ss ρ'
  have exA : Ex (vis O ss (vs.map some) H) (vis O (ss ++ List.replicate n .un) σ0 H) := hide_le fun b q => by
    rcases q with q | ⟨j, h1, _⟩
    · exact .inl q
    · rw [kd_app] at h1; exact absurd h1 (noOwn_kd no)
  have exB : Ex (vis O ρ' σ' H') (vis (ins O a) (fin ss ρ') (vs.map some) H') := hide_le fun b q => by
    rcases q with (q | q) | ⟨j, h1, _⟩
    · exact .inl q
    · subst q; exact .inr ⟨i, hk1, ha⟩
    · exact absurd ((kf j).trans h1) (noOwn_kd no)
  have ex : Ex (vis O ss (vs.map some) H) (vis (ins O a) (fin ss ρ') (vs.map some) H') := Ex.trans exA (Ex.trans (p.ex r0) exB)
  have hnew : H a = none := by
    rcases p.mu a ⟨i, by rw [hk1]; decide, ha⟩ with ⟨j, m1, m2⟩ | m
    · rw [kd_app] at m1
      have hl := lt j m1
      rw [hσ j hl] at m2
      cases e0 : ss[j]? with
      | none => rw [List.getElem?_eq_none_iff] at e0; omega
      | some s =>
        cases s with
        | un => unfold kd at m1; rw [e0] at m1; exact absurd rfl m1
        | val d => unfold kd at m1; rw [e0] at m1; exact absurd rfl m1
        | own c0 => exact absurd (kd_own e0) (noOwn_kd no)
        | pin c0 =>
          obtain ⟨b, q1, q2, _⟩ := r.at_ j _ e0
          rw [m2] at q1; cases q1
          exact absurd q2 nO
    · exact m
  refine ⟨hnew, fun b o h1 h2 => p.fr b o h1 fun ⟨j, m1, m2⟩ => h2 ⟨j, by rw [kd_app] at m1; exact m1, by rw [kd_app] at m1; rw [← hσ j (lt j m1)]; exact m2⟩, kf,
    ⟨by rw [fin_len]; exact r.len, fun j s hs => ?_, fun j k b h1 h2 => r.dist j k b (by rw [kf j]; exact h1) (by rw [kf k]; exact h2), fun b hb => ?_⟩, hrc.ex exB fun _ e => e⟩
  · rw [fin_get] at hs
    obtain ⟨s0, e0, rfl⟩ := Option.map_eq_some_iff.mp hs
    have hl : j < ss.length := (List.getElem?_eq_some_iff.mp e0).1
    have q := r.at_ j s0 e0
    cases s0 with
    | un => trivial
    | own c0 => exact absurd (kd_own e0) (noOwn_kd no)
    | val d0 =>
      obtain ⟨v0, q1, q2⟩ := q
      exact ⟨v0, q1, Rp.ex ex _ _ q2⟩
    | pin c0 =>
      obtain ⟨a0, q1, q2, _⟩ := q
      have k0 : kd (ss ++ List.replicate n .un) j = 2 := by rw [kd_app]; exact kd_pin e0
      obtain ⟨k1, k2⟩ := p.pn j k0
      obtain ⟨c', a1, e', h1, h2, h3⟩ := p.rel.pin_at k1
      rw [k2, hσ j hl, q1] at h1
      cases h1
      simp only [finS, e']
      exact ⟨a0, q1, .inl q2, h3.ex exB fun _ e => e⟩
  · rcases hb with hb | hb
    · exact p.rel.dom b hb
    · subst hb; exact hrc.some
theorem dfp_fun {P : Program} {w : World} {mg : Str → Option Value} {base : Heap} {x qual : Str} {st : Stmt} {f : Addr} {fd : FuncData} {N ps : List Str} {k : Nat} {m : MSP} (F : Fun K x qual st f fd) (S : FnScope N ps (defScope st))
    (hbody : ∀ (cdv : Value) (A : Around) (outer : List PySem.Env) (s : Shared) (H : Hp) (E : XK), Room k (A.deeper (PyProof.Rows.envOfC qual (defScope st) s.heap.objs.size f cdv)) →
      PSs (cxOf CX0 P w K mg base N qual (defScope st) f cdv A outer s H E).nox (defBody st) (wSP K cl Z0 m)) : FnOk P w K mg base CX0 (k + 1) f fd ps (spFP K cl ps.length (mFunP N.length m)) := by
  refine fun_ok F S (fun vs H Q E h => h.1) fun cdv A outer s H vs Q E hr h => ⟨_, hbody cdv A outer s H E hr, ?_⟩
  obtain ⟨hl, ss, O, r, q⟩ := h
  unfold mFunP at q
  split at q
  case isFalse => exact q.elim
  rename_i no
  have hlen : ss.length = vs.length := by rw [r.len, List.length_map]
  have hσ : ∀ i, i < ss.length → (start N vs)[i]? = (vs.map some)[i]? := fun i hi => by
    unfold L2.start
    rw [List.getElem?_append_left (by rw [List.length_map, ← hlen]; exact hi)]
  have hpl : ps.length ≤ N.length := by have := congrArg List.length S.pre; rw [List.length_take] at this; omega
  have r0 : Rel K cl O (ss ++ List.replicate (N.length - ss.length) .un) (start N vs) H := by
    have lt : ∀ i, kd ss i ≠ 0 → i < ss.length := fun i hk => by
      by_cases h : i < ss.length
      · exact h
      · exact absurd (kd_none (List.getElem?_eq_none (by omega))) hk
    have ex : Ex (vis O ss (vs.map some) H) (vis O (ss ++ List.replicate (N.length - ss.length) .un) (start N vs) H) := hide_le fun a q => by
      rcases q with q | ⟨i, h1, _⟩
      · exact .inl q
      · rw [kd_app] at h1; exact absurd h1 (noOwn_kd no)
    refine ⟨by unfold L2.start; simp [hlen], fun i s hs => ?_, fun i j a h1 h2 h3 h4 => ?_, r.dom⟩
    · by_cases hi : i < ss.length
      · rw [List.getElem?_append_left hi] at hs
        have q := r.at_ i s hs
        cases s with
        | un => trivial
        | val d =>
          obtain ⟨v, q1, q2⟩ := q
          exact ⟨v, by rw [hσ i hi]; exact q1, Rp.ex ex _ _ q2⟩
        | own c => exact absurd (kd_own hs) (noOwn_kd no)
        | pin c =>
          obtain ⟨v, q1, q2, q3⟩ := q
          exact ⟨v, by rw [hσ i hi]; exact q1, q2, q3.ex ex fun _ e => e⟩
      · rw [List.getElem?_append_right (by omega), List.getElem?_replicate] at hs
        split at hs
        · cases hs; trivial
        · cases hs
    · rw [kd_app] at h1 h2
      exact r.dist i j a h1 h2 (by rw [← hσ i (lt i h1)]; exact h3) (by rw [← hσ j (lt j h2)]; exact h4)
  refine ⟨_, O, r0, (Gd.bind.mp q).mono (fun x q1 => ?_) fun _ _ _ w => w⟩
  intro σ' H' a p hk ha
  split at q1
  · rename_i c hc
    exact q1 a H' (fin_backP no r hσ r0 p hc ha)
  · exact q1.elim
def OkP (P : Program) (w : World) (K : PySem.W.Frag) (cl : Nat → Addr) (mg : Str → Option Value) (base : Heap) (k : Nat) (x : Str) (ps : List Str) (F : ML) : Prop :=
  ∃ f fd, FnOk P w K mg base CX0 k f fd ps (spFP K cl ps.length F) ∧ mg x = some (.ref f) ∧ PySem.W.keepIn K (.ref f) = true ∧ Binds K fd ps []
theorem ok_defP {P : Program} {w : World} {mg : Str → Option Value} {base : Heap} {x : Str} {st : Stmt} {N ps : List Str} {k : Nat} {m : MSP} (F : Def K mg x st) (S : FnScope N ps (defScope st))
    (hb : ∀ (kV doc pm : Value) (an : Option Addr) (cdv ct : Value) (us : List Value), us.length = ps.length → bindArgs (PySem.W.fnOf x x (defArgs st) (defBody st) (defScope st) .none kV doc pm an cdv ct) ⟨us, []⟩ = pure (ps.zip us))
    (hbody : ∀ (f : Addr) (cdv : Value) (A : Around) (outer : List PySem.Env) (s : Shared) (H : Hp) (E : XK), Room k (A.deeper (PyProof.Rows.envOfC x (defScope st) s.heap.objs.size f cdv)) →
      PSs (cxOf CX0 P w K mg base N x (defScope st) f cdv A outer s H E).nox (defBody st) (wSP K cl Z0 m)) : OkP P w K cl mg base (k + 1) x ps (mFunP N.length m) := by
  obtain ⟨f, fd, F, g⟩ := F
  have F' : Fun K x x st f fd := by
    obtain ⟨oc, od, dV, kV, doc, pm, an, cdv, ct, osl, e, lk, hcd, hD, _⟩ := F.ex
    have hd : dV = .none := by
      rcases hD with ⟨_, e⟩ | ⟨e, _⟩
      · exact e
      · exact absurd rfl e
    subst hd
    exact ⟨⟨oc, od, kV, doc, pm, an, cdv, ct, osl, e, lk, hcd⟩, F.kp⟩
  exact ⟨f, fd, dfp_fun F' S (hbody f), g, F.kp, F.bindsN hb⟩
end
end DF
namespace DF
open PySem PySem.Spec PyProof.Rows L2 Evl
/-! ### the call of such a def -/
section
variable {K : PySem.W.Frag} {cl : Nat → Addr} {O : Addr → Prop} {Z : ZK} {ρ ρ' ρ1 : Env} {σ σ' σ1 : L2.St} {H H' H1 : Hp} {X : Cx} {pos p : Pos} {a : Expr} {es : List Expr} {x : Str} {mr : MA} {F : ML} {k j : Nat} {ps : List Str}
def mCallP (F : ML) (i : Nat) (ma : MA) : ML := fun ρ => (lft (ctOf ρ i)).bind fun _ => (ma ρ).bind fun x => (lft (ctOf x.2 i)).bind fun c => (lft (okR (F (.pin c :: x.1.map .val)))).bind fun y => match y.2 with
  | .pin c' :: _ => .ok (y.1, setCt x.2 i c')
  | _ => .bad
theorem ctOf_at {ρ : Env} {i : Nat} {c : Ct} (h : ctOf ρ i = some c) (c' : Ct) : (ρ[i]? = some (.own c) ∧ (setCt ρ i c')[i]? = some (.own c')) ∨ (ρ[i]? = some (.pin c) ∧ (setCt ρ i c')[i]? = some (.pin c')) := by
  unfold ctOf at h
  split at h
  · rename_i c0 e0
    cases h
    refine .inl ⟨e0, ?_⟩
    unfold setCt
    rw [e0]
    exact List.getElem?_set_self (List.getElem?_eq_some_iff.mp e0).1
  · rename_i c0 e0
    cases h
    refine .inr ⟨e0, ?_⟩
    unfold setCt
    rw [e0]
    exact List.getElem?_set_self (List.getElem?_eq_some_iff.mp e0).1
  · cases h
theorem setCt_ne {ρ : Env} {i j : Nat} {c' : Ct} (h : j ≠ i) : (setCt ρ i c')[j]? = ρ[j]? := by
  unfold setCt
  split
  · exact List.getElem?_set_ne (Ne.symm h)
  · exact List.getElem?_set_ne (Ne.symm h)
  · rfl
theorem callP_back {i : Nat} {c c' c2 : Ct} {q t : Addr} {ds : List D} {vs : List V} {ss : Env} (r : Rel K cl O ρ σ H) (hc : ctOf ρ i = some c) (hp : σ[i]? = some (some (.ref q)))
    (p : PoL K cl (hid O ρ σ) (.pin c :: ds.map .val) (some (.ref q) :: vs.map some) H c2 (.pin c' :: ss) t H') : PoL K cl O ρ σ H c2 (setCt ρ i c') t H' := by
  have hk : kd ρ i ≠ 0 := by obtain ⟨_, _, _, z⟩ := r.ct hc; exact z
  have hq : hid O ρ σ q := r.mu_hid ⟨i, hk, hp⟩
  have hqs : H q ≠ none := by
    obtain ⟨q', e1, e2, _⟩ := r.ct hc
    rw [hp] at e1; cases e1
    exact e2.some
  have hqt : q ≠ t := fun z => hqs (by rw [z]; exact p.new)
  have mu : ∀ a, Mu (.pin c :: ds.map .val) (some (.ref q) :: vs.map some) a → a = q := fun a ⟨j, h1, h2⟩ => by
    rw [kd_pv] at h1
    split at h1
    · rename_i e; subst e; rw [List.getElem?_cons_zero] at h2; cases h2; rfl
    · exact absurd rfl h1
  have fr : ∀ a o, H a = some o → a ≠ q → H' a = some o := fun a o h1 h2 => p.fr a o h1 fun z => h2 (mu a z)
  have hkd : ∀ j, kd (setCt ρ i c') j = kd ρ j := fun j => kd_setCt
  have own : ∀ {b : Addr}, (∃ j, kd (setCt ρ i c') j = 1 ∧ σ[j]? = some (some (.ref b))) → hid O ρ σ b := fun ⟨j, h1, h2⟩ => .inr ⟨j, by rw [← hkd j]; exact h1, h2⟩
  have exB : Ex (vis (ins (hid O ρ σ) t) (.pin c' :: ss) (some (.ref q) :: vs.map some) H') (vis (ins O t) (setCt ρ i c') σ H') := hide_le fun b z => by
    rcases z with (z | z) | z
    · exact .inl (.inl (.inl z))
    · exact .inl (.inr z)
    · exact .inl (.inl (own z))
  have exA : Ex (vis O ρ σ H) (vis (ins O t) (setCt ρ i c') σ H') := hide_mono fun b u z e => ⟨fun w => by
    rcases w with (w | w) | w
    · exact z (.inl w)
    · subst w; rw [p.new] at e; cases e
    · exact z (own w), fr b u e fun w => z (by rw [w]; exact hq)⟩
  obtain ⟨q', e1, _, hrc⟩ := p.rel.at_ 0 (.pin c') rfl
  rw [List.getElem?_cons_zero] at e1; cases e1
  have hrc' : Rc K cl (vis (ins O t) (setCt ρ i c') σ H') H' c' q := hrc.ex exB fun _ e => e
  have hlen : (setCt ρ i c').length = ρ.length := by unfold setCt; split <;> simp
  refine ⟨p.new, fun b u h1 h2 => fr b u h1 fun z => h2 (by rw [z]; exact ⟨i, hk, hp⟩), fun j => (hkd j).symm,
    ⟨by rw [hlen, r.len], fun j s hs => ?_, fun j k b h1 h2 => r.dist j k b (by rw [← hkd j]; exact h1) (by rw [← hkd k]; exact h2), fun b hb => ?_⟩, p.val.ex exB fun _ e => e⟩
  · by_cases hj : j = i
    · subst hj
      rcases ctOf_at hc c' with ⟨e0, e1⟩ | ⟨e0, e1⟩
      · rw [e1] at hs; cases hs
        obtain ⟨p', h1, h2, _⟩ := r.at_ j _ e0
        rw [hp] at h1; cases h1
        exact ⟨q, hp, fun z => by
          rcases z with z | z
          · exact h2 z
          · exact hqt z, hrc'⟩
      · rw [e1] at hs; cases hs
        obtain ⟨p', h1, h2, _⟩ := r.at_ j _ e0
        rw [hp] at h1; cases h1
        exact ⟨q, hp, .inl h2, hrc'⟩
    · rw [setCt_ne hj] at hs
      have z := r.at_ j s hs
      have nep : ∀ b, kd ρ j ≠ 0 → σ[j]? = some (some (.ref b)) → b ≠ q := fun b h1 h2 w => by
        subst w
        exact hj (r.dist j i b h1 hk h2 hp)
      cases s with
      | un => trivial
      | val d =>
        obtain ⟨v, q1, q2⟩ := z
        exact ⟨v, q1, Rp.ex exA _ _ q2⟩
      | own c0 =>
        obtain ⟨v, q1, q2, q3⟩ := z
        exact ⟨v, q1, fun z => by
          rcases z with z | z
          · exact q2 z
          · subst z; exact q3.some p.new, q3.ex exA fun _ e => fr v _ e (nep v (by rw [kd_own hs]; decide) q1)⟩
      | pin c0 =>
        obtain ⟨v, q1, q2, q3⟩ := z
        exact ⟨v, q1, .inl q2, q3.ex exA fun _ e => fr v _ e (nep v (by rw [kd_pin hs]; decide) q1)⟩
  · rcases hb with hb | hb
    · exact p.rel.dom b (.inl (.inl hb))
    · exact p.rel.dom b (.inr hb)
theorem PoL.behind {c2 : Ct} {t : Addr} (a : PoT K cl O ρ σ H ρ1 H1) (b : PoL K cl O ρ1 σ H1 c2 ρ' t H') (r : Rel K cl O ρ σ H) : PoL K cl O ρ σ H c2 ρ' t H' :=
  ⟨fresh_before r a b.new, a.po.fr.trans b.fr a.po.mu, fun i => (a.sh i).trans (b.sh i), b.rel, b.val⟩
theorem dl_callP (z : ZOk X.K cl Z) (i : Nat) (h : OkP X.prog X.w X.K cl X.mg X.base k x ps F) (hr : Room j X.A) (hkj : k ≤ j) (hg : Gl X x := by rfl) {n : Nat} (hps : ps.length = n + 1) (hn : ALen mr n)
    (hv : PE X a (tVar i)) (ha : PA X es (wA X.K cl Z mr)) (hdb : (x == ("__debug__" : Str)) = false := by decide) (he : starEach (a :: es) X.env = (false, eval a X.env) :: starEach es X.env := by rfl) (hpl : (backTo pos (starEach es X.env)).any (·.1) = false := by rfl) :
    PE X (.Call (.Name x p) (a :: es) [] pos) (wL X.K cl Z (mCallP F i mr)) := by
  obtain ⟨f, fd, G, hm, hk, hb⟩ := h
  refine (pe_call G (hr.mono hkj) hg hm hk hb .nil pass0 (pa_cons hv ha he) hdb he hpl).wk fun σ H Q ⟨ρ, O, r, q⟩ => ?_
  obtain ⟨c0, hc0, q⟩ := Gd.lft q
  obtain ⟨p0, hp0, _, _⟩ := r.ct hc0
  refine ⟨.ref p0, hp0, ?_⟩
  cases hmr : mr ρ with
  | bad => rw [hmr] at q; exact q.elim
  | err c d ρ' =>
    rw [hmr] at q
    exact ⟨ρ, O, r, by rw [hmr]; exact q⟩
  | ok y =>
    obtain ⟨ds, ρ1⟩ := y
    rw [hmr] at q
    simp only [bind_ok] at q
    refine ⟨ρ, O, r, ?_⟩
    rw [hmr]
    intro vs H1 p1
    obtain ⟨c, hc, q1⟩ := Gd.lft q
    obtain ⟨y, ey, q2⟩ := Gd.lft q1
    refine ⟨by rw [List.append_nil, List.length_cons, ← p1.val.length, hn ds ρ ρ1 hmr, hps], .pin c :: ds.map .val, hid O ρ1 σ, ?_, ?_⟩
    · rw [List.append_nil]
      exact rel_pinned p1.po.rel hc hp0 p1.val
    · rw [okR_some ey, List.append_nil]
      intro t H' p2
      obtain ⟨c2, ss'⟩ := y
      cases ss' with
      | nil => exact q2.elim
      | cons s ss =>
        cases s with
        | pin c' => exact q2 t H' (PoL.behind p1.poT (callP_back p1.po.rel hc hp0 p2) r)
        | _ => exact q2.elim
end
end DF
namespace DF
open PySem PySem.Spec PyProof.Rows L2 Evl
/-! ### d[k] of a dict of the frame's own -/
section
variable {X : Cx} {cl : Nat → Addr} {Z : ZK} {a b : Expr} {mb : ME} {pos : Pos}
def mIxD (i : Nat) (mb : ME) : ME := fun ρ => (lft (ctD ρ i)).bind fun _ => (mb ρ).bind fun y => (lft (asStr y.1)).bind fun k => (lft (ctD y.2 i)).bind fun kvs => (lft (kvs.lookup k)).bind fun d => .ok (d, y.2)
theorem de_ixD (z : ZOk X.K cl Z) (hu : X.A.units + 1 < cLine) (i : Nat) (ha : PE X a (tVar i)) (hb : PE X b (wE X.K cl Z mb)) (hs : NoSl b) : PE X (.Subscript a b pos) (wE X.K cl Z (mIxD i mb)) :=
  (pe_dget hu ha hb hs).wk fun σ H Q ⟨ρ, O, r, g⟩ => by
    obtain ⟨c0, hc0, g⟩ := Gd.lft g
    obtain ⟨p, vs0, h1, _, _⟩ := r.dct hc0
    refine ⟨.ref p, h1, wE_then z r g fun d ρ1 v H1 p1 g1 => ?_⟩
    obtain ⟨k, e0, g2⟩ := Gd.lft g1
    obtain ⟨kvs, e1, g3⟩ := Gd.lft g2
    obtain ⟨d', e2, g4⟩ := Gd.lft g3
    simp only at e0 e1 g4
    cases d <;> simp only [asStr] at e0 <;> try (cases e0; done)
    cases e0
    obtain ⟨p', ws, h1', h2, h3⟩ := p1.po.rel.dct e1
    rw [h1] at h1'; cases h1'
    have hv := p1.val
    simp only [Rp] at hv
    subst hv
    obtain ⟨v', e3, e4⟩ := rkv_get h3 e2
    exact ⟨p, v', rfl, e3 ▸ DGet.k (k := Sum.inr _) h2, g4 v' H1 ⟨p1.po, p1.sh, e4⟩⟩
end
end DF
namespace DF
open PySem PySem.Spec PyProof.Rows L2 Evl
/-! ### repr of plain data -/
def rRepr (K : PySem.W.Frag) : List V → Hp → VK → Prop := fun xs H Q => ∃ x p, xs = [x] ∧ Dp K H x p ∧ (p.showable = true ∧ p.hasDict = false ∧ p.depth ≤ 64 ∧ p.shown.length ≤ sizeLine) ∧ Q (.str p.shown) H
theorem call_reprD {X : Cx} (hg : X.A.guards = some []) (hu : X.A.units + 65 < cLine) : CallR X (.builtin "repr") (rRepr X.K) := by
  intro pins s σ H xs us Q I r h
  obtain ⟨x, p, rfl, hd, ⟨h1, h2, h3, h4⟩, q⟩ := h
  obtain ⟨u, rfl, ru⟩ : ∃ u, us = [u] ∧ RelV x u := by cases r with | cons a b => cases b; exact ⟨_, rfl, a⟩
  have ref : ∀ a, u = Value.ref a → wpAny (model X.prog X.w) X.A (call (.builtin "repr") [u]) (EP X pins σ Q) X.xe s := fun a e => by
    subst e
    obtain ⟨as, hr⟩ := Dp.reads I p x (.ref a) hd ru
    refine repr_of_reads' (h₀ := s.heap) hr h1 (fun z => by rw [h2] at z; cases z) hg (by omega) (fun _ _ z => z) (fun h' t tk k => ?_) h4
    exact ⟨.str p.shown, H, I.kept k, ⟨t, rfl⟩, q⟩
  cases hd with
  | non =>
    obtain rfl : u = Value.none := ru
    exact P.repr_of_none ⟨.str _, H, I.tok _, ⟨_, rfl⟩, q⟩
  | bl b =>
    obtain rfl : u = Value.bool b := ru
    refine P.repr_of_bool ⟨.str _, H, I.tok _, ⟨s.toks, ?_⟩, q⟩
    cases b <;> rfl
  | int i =>
    obtain ⟨t, rfl⟩ : ∃ t, u = Value.int i t := ru
    have h1' : decide (i.natAbs.log2 < 1920) = true := h1
    exact P.repr_of_int (of_decide_eq_true h1') ⟨.str _, H, I.tok _, ⟨_, rfl⟩, q⟩
  | str y =>
    obtain ⟨t, rfl⟩ : ∃ t, u = Value.str y t := ru
    exact P.repr_of_str ⟨.str _, H, I.tok _, ⟨_, rfl⟩, q⟩ h4
  | lst a b => exact ref _ ru
  | tup a b => exact ref _ ru
open Classical in
noncomputable def fRepr : List D → Option D
  | [d] => match toP d with
    | some p => if p.showable = true ∧ p.hasDict = false ∧ p.depth ≤ 64 ∧ p.shown.length ≤ sizeLine then some (.str p.shown) else none
    | none => none
  | _ => none
theorem o_repr {X : Cx} {cl : Nat → Addr} {k : Nat} (hr : Room k X.A) : OpN X cl (.builtin "repr") fRepr := by
  refine ⟨_, call_reprD hr.gd (by have := hr.un; omega), fun P H xs ds d Q hP hx e q => ?_⟩
  unfold fRepr at e
  split at e
  · rename_i d0
    split at e
    · rename_i p hp
      split at e
      · rename_i hc
        cases e
        obtain ⟨v, rfl, h0⟩ := rps1 hx
        exact ⟨v, p, rfl, dp_of d0 v p (Rp.ex (hide_ex H P) _ _ h0) hp, hc, q _ H (Ex.refl H) (by simp only [Rp])⟩
      · cases e
    · cases e
  · cases e
end DF
namespace Mi
open PySem PySem.Spec L2 Evl DF
noncomputable section
/-! Book_text -/
def M_Book_text : MS := mRet (mUn (opSlot 0 1) (mVar 0))
def m_Book_text : ME := mFun 1 M_Book_text
/-! _law_frac_common -/
def M__law_frac_common : MS := mSeq (mPar 0 1 (mVal (mCallN fAbs (mCons (mVar 0) (mNil)))) (mVal (mCallN fAbs (mCons (mVar 1) (mNil))))) (mSeq (mWhile (fuelAbs 1) (mTest (mBin opGt (mVar 1) (mC (.int (0))))) (mPar 0 1 (mVal (mVar 1)) (mVal (mBin opMod (mCallN fInt (mCons (mVar 0) (mNil))) (mVar 1))))) (mRet (mVar 0)))
def m__law_frac_common : ME := mFun 2 M__law_frac_common
/-! _law_frac -/
def M__law_frac : MS := mSeq (mSet 2 (mVal (mCall m__law_frac_common (mCons (mVar 0) (mCons (mVar 1) (mNil)))))) (mSeq (mSet 2 (mVal (mIf (mTest (mBin opGt (mVar 1) (mC (.int (0))))) (mVar 2) (mUn opNeg (mVar 2))))) (mRet (mTup (mCons (mBin opFdiv (mVar 0) (mVar 2)) (mCons (mBin opFdiv (mVar 1) (mVar 2)) (mNil))))))
def m__law_frac : ME := mFun 3 M__law_frac
/-! _law_take -/
def M__law_take : MS := mSeq (mIfS (mTest (mBin opGt (mIxO 0 (mC (.int (0)))) (mC (.int (0))))) (mSeq (mSet 2 (mVal (mBin opMod (mCallN fInt (mCons (mIxO 0 (mC (.int (0)))) (mNil))) (mVar 1)))) (mSeq (mSetIx 0 (mBin opFdiv (mIxO 0 (mC (.int (0)))) (mVar 1)) (mC (.int (0)))) (mRet (mVar 2)))) (mPass)) (mSeq (mSetIx 0 (mBin opAdd (mIxO 0 (mC (.int (2)))) (mC (.int (1)))) (mC (.int (2)))) (mSeq (mSet 3 (mVal (mBin opIx (mOfL (mLstL (mCons (mC (.int (2147483647))) (mCons (mC (.int (2147483629))) (mCons (mC (.int (2147483587))) (mCons (mC (.int (2147483579))) (mCons (mC (.int (2147483563))) (mNil)))))))) (mBin opMod (mCallN fInt (mCons (mIxO 0 (mC (.int (2)))) (mNil))) (mC (.int (5))))))) (mSeq (mSet 4 (mVal (mBin opMod (mCallN fInt (mCons (mBin opPow (mCallN fInt (mCons (mBin opAdd (mBin opAdd (mIxO 0 (mC (.int (1)))) (mBin opMul (mBin opMul (mC (.int (117994))) (mIxO 0 (mC (.int (2))))) (mIxO 0 (mC (.int (2)))))) (mC (.int (4140)))) (mNil))) (mC (.int (3)))) (mNil))) (mVar 3)))) (mSeq (mSet 4 (mVal (mBin opMod (mCallN fInt (mCons (mBin opMul (mVar 4) (mBin opAdd (mBin opMod (mCallN fInt (mCons (mVar 4) (mNil))) (mC (.int (16030)))) (mBin opMul (mC (.int (1902))) (mIxO 0 (mC (.int (2))))))) (mNil))) (mC (.int (2305843009213693907)))))) (mRet (mBin opMod (mCallN fInt (mCons (mBin opFdiv (mVar 4) (mC (.int (167)))) (mNil))) (mVar 1)))))))
def m__law_take : ME := mFun 5 M__law_take
/-! _law_parts -/
def M__law_parts : MS := mSeq (mSet 2 (mVal (mOfL (mLc [3] (mIt rng1 (mCons (mVar 1) (mNil))) (gSet 3) (mYes) (mBin opAdd (mC (.int (1))) (mCallM m__law_take 0 (mCons (mC (.int (8))) (mNil)))))))) (mRet (mOfL (mLc [4] (mItems (mVar 2)) (gSet 4) (mYes) (mCall m__law_frac (mCons (mVar 4) (mCons (mCallN fSum (mCons (mVar 2) (mNil))) (mNil)))))))
def m__law_parts : ME := mFun 5 M__law_parts
/-! _law_frac_times -/
def M__law_frac_times : MS := mRet (mCall m__law_frac (mCons (mBin opMul (mBin opIx (mVar 0) (mC (.int (0)))) (mBin opIx (mVar 1) (mC (.int (0))))) (mCons (mBin opMul (mBin opIx (mVar 0) (mC (.int (1)))) (mBin opIx (mVar 1) (mC (.int (1))))) (mNil))))
def m__law_frac_times : ME := mFun 2 M__law_frac_times
/-! _law_part -/
def M__law_part : MS := mSeq (mSet 1 (mVal (mBin opAdd (mC (.int (1))) (mCallM m__law_take 0 (mCons (mC (.int (6))) (mNil)))))) (mRet (mCall m__law_frac (mCons (mCallM m__law_take 0 (mCons (mBin opAdd (mVar 1) (mC (.int (1)))) (mNil))) (mCons (mVar 1) (mNil)))))
def m__law_part : ME := mFun 2 M__law_part
/-! _law_frac_plus -/
def M__law_frac_plus : MS := mRet (mCall m__law_frac (mCons (mBin opAdd (mBin opMul (mBin opIx (mVar 0) (mC (.int (0)))) (mBin opIx (mVar 1) (mC (.int (1))))) (mBin opMul (mBin opIx (mVar 1) (mC (.int (0)))) (mBin opIx (mVar 0) (mC (.int (1)))))) (mCons (mBin opMul (mBin opIx (mVar 0) (mC (.int (1)))) (mBin opIx (mVar 1) (mC (.int (1))))) (mNil))))
def m__law_frac_plus : ME := mFun 2 M__law_frac_plus
/-! _law_frac_less -/
def M__law_frac_less : MS := mRet (mCall m__law_frac (mCons (mBin opSub (mBin opMul (mBin opIx (mVar 0) (mC (.int (0)))) (mBin opIx (mVar 1) (mC (.int (1))))) (mBin opMul (mBin opIx (mVar 1) (mC (.int (0)))) (mBin opIx (mVar 0) (mC (.int (1)))))) (mCons (mBin opMul (mBin opIx (mVar 0) (mC (.int (1)))) (mBin opIx (mVar 1) (mC (.int (1))))) (mNil))))
def m__law_frac_less : ME := mFun 2 M__law_frac_less
/-! _law_told -/
def M__law_told : MS := mSeq (mAsg (mCallM m__law_parts 0 (mCons (mC (.int (4))) (mNil))) (gTupD 4 (gsCons (gSet 1) (gsCons (gSet 2) (gsCons (gSet 3) (gsCons (gSet 4) (gsNil))))))) (mSeq (mIfS (mTest (mBin opEq (mCallM m__law_take 0 (mCons (mC (.int (2))) (mNil))) (mC (.int (0))))) (mSeq (mAsg (mBin opAdd (mOfL (mLc [8] (mItems (mTup (mCons (mVar 1) (mCons (mVar 2) (mNil))))) (gSet 8) (mYes) (mCall m__law_frac_times (mCons (mVar 8) (mCons (mTup (mCons (mC (.int (1))) (mCons (mC (.int (2))) (mNil)))) (mNil)))))) (mOfL (mLstL (mCons (mVar 3) (mCons (mVar 4) (mNil)))))) (gTupD 4 (gsCons (gSet 1) (gsCons (gSet 2) (gsCons (gSet 3) (gsCons (gSet 4) (gsNil))))))) (mSeq (mSet 5 (mVal (mCall m__law_frac_times (mCons (mTup (mCons (mC (.int (1))) (mCons (mC (.int (2))) (mNil)))) (mCons (mCall m__law_frac_plus (mCons (mVar 1) (mCons (mVar 2) (mNil)))) (mNil)))))) (mPar 3 4 (mVal (mCall m__law_frac_plus (mCons (mVar 3) (mCons (mVar 5) (mNil))))) (mVal (mCall m__law_frac_plus (mCons (mVar 4) (mCons (mCall m__law_frac_less (mCons (mCall m__law_frac_plus (mCons (mVar 1) (mCons (mVar 2) (mNil)))) (mCons (mVar 5) (mNil)))) (mNil)))))))) (mPass)) (mSeq (mPar 6 7 (mVal (mCallM m__law_part 0 (mNil))) (mVal (mCallM m__law_part 0 (mNil)))) (mRet (mTup (mCons (mVar 1) (mCons (mVar 2) (mCons (mVar 3) (mCons (mVar 4) (mCons (mVar 6) (mCons (mIf (mTest (mBin opEq (mTup (mCons (mVar 6) (mCons (mVar 7) (mNil)))) (mTup (mCons (mTup (mCons (mC (.int (1))) (mCons (mC (.int (1))) (mNil)))) (mCons (mTup (mCons (mC (.int (1))) (mCons (mC (.int (1))) (mNil)))) (mNil)))))) (mTup (mCons (mC (.int (1))) (mCons (mC (.int (2))) (mNil)))) (mVar 7)) (mNil)))))))))))
def m__law_told : ME := mFun 9 M__law_told
/-! common -/
def M_common : MS := mSeq (mPar 0 1 (mVal (mCallN fAbs (mCons (mVar 0) (mNil)))) (mVal (mCallN fAbs (mCons (mVar 1) (mNil))))) (mSeq (mWhile (fuelAbs 1) (mTest (mBin opGt (mVar 1) (mC (.int (0))))) (mPar 0 1 (mVal (mVar 1)) (mVal (mBin opMod (mVar 0) (mVar 1))))) (mRet (mVar 0)))
def m_common : ME := mFun 2 M_common
/-! ratio -/
def M_ratio : MS := mSeq (mSet 2 (mVal (mCall m_common (mCons (mVar 0) (mCons (mVar 1) (mNil)))))) (mSeq (mSet 2 (mVal (mIf (mTest (mBin opGt (mVar 1) (mC (.int (0))))) (mVar 2) (mBin opSub (mC (.int (0))) (mVar 2))))) (mRet (mTup (mCons (mBin opFdiv (mVar 0) (mVar 2)) (mCons (mBin opFdiv (mVar 1) (mVar 2)) (mNil))))))
def m_ratio : ME := mFun 3 M_ratio
/-! plus -/
def M_plus : MS := mRet (mCall m_ratio (mCons (mBin opAdd (mBin opMul (mBin opIx (mVar 0) (mC (.int (0)))) (mBin opIx (mVar 1) (mC (.int (1))))) (mBin opMul (mBin opIx (mVar 1) (mC (.int (0)))) (mBin opIx (mVar 0) (mC (.int (1)))))) (mCons (mBin opMul (mBin opIx (mVar 0) (mC (.int (1)))) (mBin opIx (mVar 1) (mC (.int (1))))) (mNil))))
def m_plus : ME := mFun 2 M_plus
/-! total -/
def M_total : MS := mSeq (mSet 1 (mVal (mTup (mCons (mC (.int (0))) (mCons (mC (.int (1))) (mNil)))))) (mSeq (mFor (mItems (mVar 0)) (gSet 2) (mSet 1 (mVal (mCall m_plus (mCons (mVar 1) (mCons (mVar 2) (mNil))))))) (mRet (mVar 1)))
def m_total : ME := mFun 3 M_total
/-! is_whole -/
def M_is_whole : MS := mRet (mAnd (mCallN fIsi (mCons (mVar 0) (mCons (mC (.ty "int")) (mNil)))) (mNot (mCallN fIsi (mCons (mVar 0) (mCons (mC (.ty "bool")) (mNil))))))
def m_is_whole : ME := mFun 1 M_is_whole
/-! is_ratio -/
def M_is_ratio : MS := mSeq (mIfS (mOrT (mNotT (mTest (mCallN fIsi (mCons (mVar 0) (mCons (mC (.ty "tuple")) (mNil)))))) (mOrT (mTest (mBin opNe (mCallN fLen (mCons (mVar 0) (mNil))) (mC (.int (2))))) (mNotT (mTest (mCallN fAll (mCons (mOfL (mLc [1] (mItems (mVar 0)) (gSet 1) (mYes) (mCall m_is_whole (mCons (mVar 1) (mNil))))) (mNil))))))) (mRet (mC (.bl false))) (mPass)) (mRet (mAnd (mBin opGe (mBin opIx (mVar 0) (mC (.int (1)))) (mC (.int (1)))) (mBin opEq (mCall m_common (mCons (mBin opIx (mVar 0) (mC (.int (0)))) (mCons (mBin opIx (mVar 0) (mC (.int (1)))) (mNil)))) (mC (.int (1))))))
def m_is_ratio : ME := mFun 2 M_is_ratio
/-! is_size -/
def M_is_size : MS := mRet (mAnd (mCall m_is_ratio (mCons (mVar 0) (mNil))) (mBin opGt (mBin opIx (mVar 0) (mC (.int (0)))) (mC (.int (0)))))
def m_is_size : ME := mFun 1 M_is_size
/-! check_chances -/
def M_check_chances : MS := mIfS (mOrT (mNotT (mTest (mCallN fAll (mCons (mOfL (mLc [1] (mItems (mVar 0)) (gSet 1) (mYes) (mCall m_is_size (mCons (mVar 1) (mNil))))) (mNil))))) (mTest (mBin opNe (mCall m_total (mCons (mVar 0) (mNil))) (mC (.tup [(.int (1)), (.int (1))]))))) (mNever) (mPass)
def m_check_chances : ME := mFun 2 M_check_chances
/-! is_rate -/
def M_is_rate : MS := mRet (mAnd (mCall m_is_ratio (mCons (mVar 0) (mNil))) (mBin opGe (mBin opIx (mVar 0) (mC (.int (0)))) (mC (.int (0)))))
def m_is_rate : ME := mFun 1 M_is_rate
/-! is_below -/
def M_is_below : MS := mRet (mBin opLt (mBin opMul (mBin opIx (mVar 0) (mC (.int (0)))) (mBin opIx (mVar 1) (mC (.int (1))))) (mBin opMul (mBin opIx (mVar 1) (mC (.int (0)))) (mBin opIx (mVar 0) (mC (.int (1))))))
def m_is_below : ME := mFun 2 M_is_below
/-! is_part -/
def M_is_part : MS := mRet (mAnd (mCall m_is_rate (mCons (mVar 0) (mNil))) (mNot (mCall m_is_below (mCons (mC (.tup [(.int (1)), (.int (1))])) (mCons (mVar 0) (mNil))))))
def m_is_part : ME := mFun 1 M_is_part
/-! check_part -/
def M_check_part : MS := mIfS (mNotT (mTest (mCall m_is_part (mCons (mVar 0) (mNil))))) (mNever) (mPass)
def m_check_part : ME := mFun 1 M_check_part
/-! check_handed -/
def M_check_handed : MS := mSeq (mDrop (mCall m_check_chances (mCons (mTup (mCons (mVar 0) (mCons (mVar 1) (mCons (mVar 2) (mCons (mVar 3) (mNil)))))) (mNil)))) (mSeq (mDrop (mCall m_check_part (mCons (mVar 4) (mNil)))) (mSeq (mDrop (mCall m_check_part (mCons (mVar 5) (mNil)))) (mIfS (mAndT (mTest (mBin opEq (mVar 4) (mC (.tup [(.int (1)), (.int (1))])))) (mTest (mBin opEq (mVar 5) (mC (.tup [(.int (1)), (.int (1))]))))) (mNever) (mPass))))
def m_check_handed : ME := mFun 6 M_check_handed
/-! lines_of -/
def M_lines_of : MS := mRet (mOfL (mLc [1] (mItems (mM1 opSplit (mVar 0) (mC (.str "\n")))) (gSet 1) (mYes) (mM1 opSplit (mVar 1) (mC (.str " ")))))
def m_lines_of : ME := mFun 2 M_lines_of
/-! is_next_region -/
def M_is_next_region : MS := mRet (mAnd (mBin opLt (mCallN fLen (mCons (mVar 0) (mNil))) (mC (.int (4)))) (mBin opEq (mVar 1) (mOfL (mLstL (mCons (mBin opIx (mC (.tup [(.str "inside"), (.str "first"), (.str "second"), (.str "none")])) (mCallN fLen (mCons (mVar 0) (mNil)))) (mNil))))))
def m_is_next_region : ME := mFun 2 M_is_next_region
/-! whole_in -/
def M_whole_in : MS := mSeq (mSet 1 (mVal (mIf (mTest (mBin opEq (mSl (mVar 0) (mNoPart) (mPart (mC (.int (1))))) (mC (.str "-")))) (mSl (mVar 0) (mPart (mC (.int (1)))) (mNoPart)) (mVar 0)))) (mSeq (mIfS (mOrT (mNotT (mTest (mChain opLe opLe (mC (.int (1))) (mCallN fLen (mCons (mVar 1) (mNil))) (mC (.int (4000)))))) (mNotT (mTest (mCallN fAll (mCons (mOfL (mLc [2] (mItems (mVar 1)) (gSet 2) (mYes) (mBin opIn (mVar 2) (mC (.str "0123456789"))))) (mNil)))))) (mRet (mC .non)) (mPass)) (mRet (mIf (mAndT (mTest (mBin opEq (mBin opIx (mVar 1) (mC (.int (0)))) (mC (.str "0")))) (mTest (mBin opNe (mVar 0) (mC (.str "0"))))) (mC .non) (mCallN fInt (mCons (mVar 0) (mNil))))))
def m_whole_in : ME := mFun 3 M_whole_in
/-! ratio_in -/
def M_ratio_in : MS := mSeq (mSet 1 (mVal (mOfL (mLc [3] (mItems (mM1 opSplit (mVar 0) (mC (.str "/")))) (gSet 3) (mYes) (mCall m_whole_in (mCons (mVar 3) (mNil))))))) (mSeq (mIfS (mOrT (mTest (mBin opIn (mC .non) (mVar 1))) (mTest (mBin opGt (mCallN fLen (mCons (mVar 1) (mNil))) (mC (.int (2)))))) (mRet (mC .non)) (mPass)) (mSeq (mIfS (mTest (mBin opEq (mCallN fLen (mCons (mVar 1) (mNil))) (mC (.int (1))))) (mRet (mTup (mCons (mBin opIx (mVar 1) (mC (.int (0)))) (mCons (mC (.int (1))) (mNil))))) (mPass)) (mSeq (mSet 2 (mVal (mTup (mCons (mBin opIx (mVar 1) (mC (.int (0)))) (mCons (mBin opIx (mVar 1) (mC (.int (1)))) (mNil)))))) (mRet (mIf (mAndT (mTest (mBin opGt (mBin opIx (mVar 2) (mC (.int (1)))) (mC (.int (1))))) (mTest (mCall m_is_ratio (mCons (mVar 2) (mNil))))) (mVar 2) (mC .non))))))
def m_ratio_in : ME := mFun 4 M_ratio_in
/-! step_in -/
def M_step_in : MS := mSeq (mIfS (mOrT (mTest (mBin opNe (mCallN fLen (mCons (mVar 0) (mNil))) (mC (.int (4))))) (mOrT (mTest (mBin opNe (mBin opIx (mVar 0) (mC (.int (0)))) (mC (.str "step")))) (mNotT (mTest (mCallN fAll (mCons (mOfL (mLc [2] (mItems (mSl (mVar 0) (mPart (mC (.int (1)))) (mPart (mUn opNeg (mC (.int (1))))))) (gSet 2) (mYes) (mBin opIn (mVar 2) (mC (.tup [(.str "-1"), (.str "0"), (.str "1"), (.str "2"), (.str "3")]))))) (mNil))))))) (mRet (mC .non)) (mPass)) (mSeq (mSet 1 (mVal (mCall m_ratio_in (mCons (mBin opIx (mVar 0) (mUn opNeg (mC (.int (1))))) (mNil))))) (mSeq (mIfS (mOrT (mTest (mBin opIs (mVar 1) (mC .non))) (mTest (mBin opLe (mBin opIx (mVar 1) (mC (.int (0)))) (mC (.int (0)))))) (mRet (mC .non)) (mPass)) (mRet (mTup (mCons (mCallN fInt (mCons (mBin opIx (mVar 0) (mC (.int (1)))) (mNil))) (mCons (mCallN fInt (mCons (mBin opIx (mVar 0) (mC (.int (2)))) (mNil))) (mCons (mVar 1) (mNil))))))))
def m_step_in : ME := mFun 3 M_step_in
/-! least_of_region -/
def M_least_of_region : MS := mRet (mTup (mCons (mIf (mTest (mBin opIn (mVar 0) (mTup (mCons (mC (.str "second")) (mCons (mC (.str "none")) (mNil)))))) (mC (.int (0))) (mUn opNeg (mC (.int (1))))) (mCons (mIf (mTest (mBin opIn (mVar 0) (mTup (mCons (mC (.str "first")) (mCons (mC (.str "none")) (mNil)))))) (mC (.int (0))) (mUn opNeg (mC (.int (1))))) (mNil))))
def m_least_of_region : ME := mFun 1 M_least_of_region
/-! is_integer -/
def M_is_integer : MS := mRet (mAnd (mCall m_is_whole (mCons (mVar 0) (mNil))) (mChain opLe opLe (mVar 1) (mVar 0) (mVar 2)))
def m_is_integer : ME := mFun 3 M_is_integer
/-! can_stand -/
def M_can_stand : MS := mSeq (mAsg (mCall m_least_of_region (mCons (mVar 0) (mNil))) (gTupD 2 (gsCons (gSet 3) (gsCons (gSet 4) (gsNil))))) (mRet (mAnd (mCall m_is_integer (mCons (mVar 1) (mCons (mVar 3) (mCons (mC (.int (3))) (mNil))))) (mCall m_is_integer (mCons (mVar 2) (mCons (mVar 4) (mCons (mC (.int (3))) (mNil)))))))
def m_can_stand : ME := mFun 5 M_can_stand
/-! has_step -/
def M_has_step : MS := mRet (mBin opIn (mTup (mCons (mVar 1) (mCons (mVar 2) (mNil)))) (mOfL (mLc [3] (mItems (mVar 0)) (gSet 3) (mYes) (mSl (mVar 3) (mNoPart) (mPart (mC (.int (2))))))))
def m_has_step : ME := mFun 4 M_has_step
/-! does_step_stand -/
def F_does_step_stand : List (List D) → D → Option (Option D) := stF (mCall m_step_in (mCons (mVar 1) (mNil))) (mOrT (mTest (mBin opIs (mVar 2) (mC .non))) (mTest (mBin opEq (mVar 0) (mOfL (mLstL (mNil)))))) (mNotT (mTest (mCall m_can_stand (mCons (mBin opIx (mC (.tup [(.str "inside"), (.str "first"), (.str "second"), (.str "none")])) (mBin opSub (mCallN fLen (mCons (mVar 0) (mNil))) (mC (.int (1))))) (mCons (mBin opIx (mVar 2) (mC (.int (0)))) (mCons (mBin opIx (mVar 2) (mC (.int (1)))) (mNil))))))) (mOrT (mTest (mBin opEq (mCallN fLen (mCons (mVar 3) (mNil))) (mC (.int (12))))) (mTest (mCall m_has_step (mCons (mVar 3) (mCons (mBin opIx (mVar 2) (mC (.int (0)))) (mCons (mBin opIx (mVar 2) (mC (.int (1)))) (mNil)))))))
/-! regions_in -/
def R_regions_in : RegM := ⟨mCall m_lines_of (mCons (mVar 0) (mNil)), mTest (mBin opNe (mBin opIx (mVar 1) (mC (.int (0)))) (mOfL (mLstL (mCons (mC (.str "book")) (mNil))))), mTup (mCons (mC .non) (mCons (mC (.int (1))) (mNil))), mIt fEnum (mCons (mSl (mVar 1) (mPart (mC (.int (1)))) (mNoPart)) (mNil)), gTupD 2 (gsCons (gSet 4) (gsCons (gSet 5) (gsNil))), mTest (mCall m_is_next_region (mCons (mVar 2) (mCons (mVar 5) (mNil)))), F_does_step_stand, mBin opAdd (mVar 4) (mC (.int (2))), mTup (mCons (mC .non) (mCons (mBin opAdd (mVar 4) (mC (.int (2)))) (mNil))), mSeq (mApp 3 (mBin opAdd (mCallN fLen (mCons (mVar 1) (mNil))) (mC (.int (1))))) (mSeq (mFor (mIt fEnum (mCons (mVar 2) (mNil))) (gTupD 2 (gsCons (gSet 4) (gsCons (gSet 6) (gsNil)))) (mIfS (mTest (mBin opNe (mCall m_total (mCons (mOfL (mLc [7, 8, 9] (mItems (mVar 6)) (gTupD 3 (gsCons (gSet 7) (gsCons (gSet 8) (gsCons (gSet 9) (gsNil))))) (mYes) (mVar 9))) (mNil))) (mC (.tup [(.int (1)), (.int (1))])))) (mRet (mTup (mCons (mC .non) (mCons (mIxO 3 (mBin opAdd (mVar 4) (mC (.int (1))))) (mNil))))) (mPass))) (mRet (mIf (mTest (mBin opEq (mCallN fLen (mCons (mVar 2) (mNil))) (mC (.int (4))))) (mTup (mCons (mVar 2) (mCons (mC .non) (mNil)))) (mTup (mCons (mC .non) (mCons (mBin opAdd (mCallN fLen (mCons (mVar 1) (mNil))) (mC (.int (1)))) (mNil)))))))⟩
def m_regions_in : ME := R_regions_in.fn
/-! Book -/
def R_Book : BookM := ⟨mNotT (mTest (mCallN fIsi (mCons (mVar 1) (mCons (mC (.ty "str")) (mNil))))), mCall m_regions_in (mCons (mVar 1) (mNil)), gTupD 2 (gsCons (gSet 2) (gsCons (gSet 3) (gsNil))), mTest (mBin opIs (mVar 2) (mC .non)), mCallN fTuple (mCons (mOfL (mLc [4] (mItems (mVar 2)) (gSet 4) (mYes) (mCallN fTuple (mCons (mVar 4) (mNil))))) (mNil))⟩
/-! ratio_word -/
def M_ratio_word : MS := mRet (mIf (mTest (mBin opEq (mBin opIx (mVar 0) (mC (.int (1)))) (mC (.int (1))))) (mUn fFmt (mBin opIx (mVar 0) (mC (.int (0))))) (mFS [mUn fFmt (mBin opIx (mVar 0) (mC (.int (0)))), mUn fFmt (mC (.str "/")), mUn fFmt (mBin opIx (mVar 0) (mC (.int (1))))]))
def m_ratio_word : ME := mFun 1 M_ratio_word
/-! region_rows -/
def M_region_rows : MS := mSeq (mSet 2 (mVal (mOfL (mLc [3, 4, 5] (mItems (mVar 1)) (gTupD 3 (gsCons (gSet 3) (gsCons (gSet 4) (gsCons (gSet 5) (gsNil))))) (mYes) (mM1 opJoin (mC (.str " ")) (mOfL (mLstL (mCons (mC (.str "step")) (mCons (mCallN fStr (mCons (mVar 3) (mNil))) (mCons (mCallN fStr (mCons (mVar 4) (mNil))) (mCons (mCall m_ratio_word (mCons (mVar 5) (mNil))) (mNil)))))))))))) (mRet (mOfL (mLstL (mCons (mVar 0) (mStar (mVar 2) (mNil))))))
def m_region_rows : ME := mFun 6 M_region_rows
/-! book_of -/
def M_book_of : MS := mSeq (mSet 1 (mOwn (mLstL (mCons (mC (.str "book")) (mNil))))) (mSeq (mFor (mIt fZip3 (mCons (mC (.tup [(.str "inside"), (.str "first"), (.str "second"), (.str "none")])) (mCons (mVar 0) (mNil)))) (gTupD 2 (gsCons (gSet 2) (gsCons (gSet 3) (gsNil)))) (mExt 1 (mCall m_region_rows (mCons (mVar 2) (mCons (mVar 3) (mNil)))))) (mFrz 1 (mRet (mNew 0 R_Book.fn (mCons (mM1 opJoin (mC (.str "\n")) (mVar 1)) (mNil))))))
def m_book_of : ME := mFun 4 M_book_of
/-! less -/
def M_less : MS := mRet (mCall m_ratio (mCons (mBin opSub (mBin opMul (mBin opIx (mVar 0) (mC (.int (0)))) (mBin opIx (mVar 1) (mC (.int (1))))) (mBin opMul (mBin opIx (mVar 1) (mC (.int (0)))) (mBin opIx (mVar 0) (mC (.int (1)))))) (mCons (mBin opMul (mBin opIx (mVar 0) (mC (.int (1)))) (mBin opIx (mVar 1) (mC (.int (1))))) (mNil))))
def m_less : ME := mFun 2 M_less
/-! filled -/
def M_filled : MS := mSeq (mSet 1 (mVal (mOfL (mLc [3, 4] (mItems (mVar 0)) (gTupD 2 (gsCons (gSet 3) (gsCons (gSet 4) (gsNil)))) (mTest (mBin opNe (mVar 4) (mC (.tup [(.int (0)), (.int (1))])))) (mTup (mCons (mBin opIx (mVar 3) (mC (.int (0)))) (mCons (mBin opIx (mVar 3) (mC (.int (1)))) (mCons (mVar 4) (mNil))))))))) (mSeq (mSet 2 (mVal (mCall m_less (mCons (mC (.tup [(.int (1)), (.int (1))])) (mCons (mCall m_total (mCons (mOfL (mLc [3, 4] (mItems (mVar 0)) (gTupD 2 (gsCons (gSet 3) (gsCons (gSet 4) (gsNil)))) (mYes) (mVar 4))) (mNil))) (mNil)))))) (mRet (mIf (mTest (mBin opEq (mVar 2) (mC (.tup [(.int (0)), (.int (1))])))) (mVar 1) (mOfL (mLstL (mStar (mVar 1) (mCons (mTup (mStar (mC (.tup [(.int (0)), (.int (0))])) (mCons (mVar 2) (mNil)))) (mNil))))))))
def m_filled : ME := mFun 5 M_filled
/-! made -/
def M_made : MS := mRet (mCall m_book_of (mCons (mOfL (mLc [4] (mItems (mTup (mCons (mVar 3) (mCons (mVar 1) (mCons (mVar 2) (mCons (mOfL (mLstL (mNil))) (mNil))))))) (gSet 4) (mYes) (mCall m_filled (mCons (mOfL (mLstL (mStar (mVar 0) (mStar (mVar 4) (mNil))))) (mNil))))) (mNil)))
def m_made : ME := mFun 5 M_made
/-! coming_of -/
def M_coming_of : MS := mRet (mOfL (mLstL (mCons (mTup (mCons (mTup (mCons (mC (.int (1))) (mCons (mC (.int (0))) (mNil)))) (mCons (mVar 0) (mNil)))) (mCons (mTup (mCons (mTup (mCons (mC (.int (0))) (mCons (mC (.int (1))) (mNil)))) (mCons (mVar 1) (mNil)))) (mNil)))))
def m_coming_of : ME := mFun 2 M_coming_of
/-! times -/
def M_times : MS := mRet (mCall m_ratio (mCons (mBin opMul (mBin opIx (mVar 0) (mC (.int (0)))) (mBin opIx (mVar 1) (mC (.int (0))))) (mCons (mBin opMul (mBin opIx (mVar 0) (mC (.int (1)))) (mBin opIx (mVar 1) (mC (.int (1))))) (mNil))))
def m_times : ME := mFun 2 M_times
/-! handed_on -/
def M_handed_on : MS := mSeq (mDrop (mCall m_check_handed (mCons (mVar 0) (mCons (mVar 1) (mCons (mVar 2) (mCons (mVar 3) (mCons (mVar 4) (mCons (mVar 5) (mNil))))))))) (mSeq (mSet 6 (mVal (mOfL (mLstL (mCons (mTup (mCons (mTup (mCons (mUn opNeg (mC (.int (1)))) (mCons (mC (.int (1))) (mNil)))) (mCons (mCall m_times (mCons (mVar 2) (mCons (mVar 4) (mNil)))) (mNil)))) (mCons (mTup (mCons (mTup (mCons (mUn opNeg (mC (.int (1)))) (mCons (mC (.int (0))) (mNil)))) (mCons (mCall m_times (mCons (mVar 2) (mCons (mCall m_less (mCons (mC (.tup [(.int (1)), (.int (1))])) (mCons (mVar 4) (mNil)))) (mNil)))) (mNil)))) (mNil))))))) (mSeq (mSet 7 (mVal (mOfL (mLstL (mCons (mTup (mCons (mTup (mCons (mC (.int (1))) (mCons (mUn opNeg (mC (.int (1)))) (mNil)))) (mCons (mCall m_times (mCons (mVar 3) (mCons (mVar 5) (mNil)))) (mNil)))) (mCons (mTup (mCons (mTup (mCons (mC (.int (0))) (mCons (mUn opNeg (mC (.int (1)))) (mNil)))) (mCons (mCall m_times (mCons (mVar 3) (mCons (mCall m_less (mCons (mC (.tup [(.int (1)), (.int (1))])) (mCons (mVar 5) (mNil)))) (mNil)))) (mNil)))) (mNil))))))) (mRet (mCall m_made (mCons (mCall m_coming_of (mCons (mVar 0) (mCons (mVar 1) (mNil)))) (mCons (mVar 6) (mCons (mVar 7) (mCons (mOfL (mLstL (mStar (mVar 6) (mStar (mVar 7) (mNil))))) (mNil)))))))))
def m_handed_on : ME := mFun 8 M_handed_on
/-! _law_frac_sum -/
def M__law_frac_sum : MS := mSeq (mSet 1 (mVal (mTup (mCons (mC (.int (0))) (mCons (mC (.int (1))) (mNil)))))) (mSeq (mFor (mItems (mVar 0)) (gSet 2) (mSet 1 (mVal (mCall m__law_frac_plus (mCons (mVar 1) (mCons (mVar 2) (mNil))))))) (mRet (mVar 1)))
def m__law_frac_sum : ME := mFun 3 M__law_frac_sum
/-! _law_book_drift -/
def M__law_book_drift : MS := mSeq (mSet 2 (mVal (mBin opIx (mVar 0) (mVar 1)))) (mSeq (mSet 3 (mVal (mOfL (mLc [4] (mItems (mTup (mCons (mC (.int (0))) (mCons (mC (.int (1))) (mNil))))) (gSet 4) (mYes) (mCall m__law_frac_sum (mCons (mOfL (mLc [5] (mItems (mVar 2)) (gSet 5) (mYes) (mCall m__law_frac_times (mCons (mTup (mCons (mBin opIx (mVar 5) (mVar 4)) (mCons (mC (.int (1))) (mNil)))) (mCons (mBin opIx (mVar 5) (mC (.int (2)))) (mNil)))))) (mNil))))))) (mRet (mTup (mCons (mBin opIx (mVar 3) (mC (.int (0)))) (mCons (mBin opIx (mVar 3) (mC (.int (1)))) (mNil))))))
def m__law_book_drift : ME := mFun 6 M__law_book_drift
/-! _law_book_turns -/
def M__law_book_turns : MS := mSeq (mAsg (mOfL (mLc [8] (mItems (mTup (mCons (mC (.str "inside")) (mCons (mC (.str "first")) (mCons (mC (.str "second")) (mNil)))))) (gSet 8) (mYes) (mCall m__law_book_drift (mCons (mVar 0) (mCons (mVar 8) (mNil)))))) (gTupD 3 (gsCons (gTupD 2 (gsCons (gSet 1) (gsCons (gSet 2) (gsNil)))) (gsCons (gTupD 2 (gsCons (gSet 3) (gsCons (gSet 4) (gsNil)))) (gsCons (gTupD 2 (gsCons (gSet 5) (gsCons (gSet 6) (gsNil)))) (gsNil)))))) (mSeq (mSet 7 (mVal (mCall m__law_frac_less (mCons (mCall m__law_frac_times (mCons (mVar 4) (mCons (mVar 1) (mNil)))) (mCons (mCall m__law_frac_times (mCons (mVar 3) (mCons (mVar 2) (mNil)))) (mNil)))))) (mRet (mTup (mCons (mVar 7) (mCons (mCall m__law_frac_less (mCons (mCall m__law_frac_times (mCons (mVar 5) (mCons (mVar 2) (mNil)))) (mCons (mCall m__law_frac_times (mCons (mVar 6) (mCons (mVar 1) (mNil)))) (mNil)))) (mNil))))))
def m__law_book_turns : ME := mFun 9 M__law_book_turns
/-! _law_book_sides -/
def M__law_book_sides : MS := mSeq (mAsg (mCall m__law_book_drift (mCons (mVar 0) (mCons (mC (.str "inside")) (mNil)))) (gTupD 2 (gsCons (gSet 1) (gsCons (gSet 2) (gsNil))))) (mSeq (mSet 3 (mVal (mIf (mAndT (mTest (mBin opLt (mBin opIx (mVar 2) (mC (.int (0)))) (mC (.int (0))))) (mTest (mBin opNe (mBin opIx (mVar 1) (mC (.int (0)))) (mC (.int (0)))))) (mOfL (mLstL (mCons (mC (.str "first")) (mNil)))) (mOfL (mLstL (mNil)))))) (mRet (mCallN fTuple (mCons (mBin opAdd (mVar 3) (mIf (mAndT (mTest (mBin opLt (mBin opIx (mVar 1) (mC (.int (0)))) (mC (.int (0))))) (mTest (mBin opNe (mBin opIx (mVar 2) (mC (.int (0)))) (mC (.int (0)))))) (mOfL (mLstL (mCons (mC (.str "second")) (mNil)))) (mOfL (mLstL (mNil))))) (mNil)))))
def m__law_book_sides : ME := mFun 4 M__law_book_sides
/-! _law_book_border -/
def M__law_book_border : MS := mSeq (mAsg (mCall m__law_book_drift (mCons (mVar 0) (mCons (mC (.str "inside")) (mNil)))) (gTupD 2 (gsCons (gSet 1) (gsCons (gSet 2) (gsNil))))) (mSeq (mAsg (mCall m__law_book_turns (mCons (mVar 0) (mNil))) (gTupD 2 (gsCons (gSet 3) (gsCons (gSet 4) (gsNil))))) (mSeq (mSet 5 (mVal (mCall m__law_book_sides (mCons (mVar 0) (mNil))))) (mSeq (mSet 6 (mOwn (mLstL (mCons (mTup (mCons (mC (.str "x")) (mCons (mBin opEq (mBin opIx (mVar 1) (mC (.int (0)))) (mC (.int (0)))) (mNil)))) (mCons (mTup (mCons (mC (.str "y")) (mCons (mBin opEq (mBin opIx (mVar 2) (mC (.int (0)))) (mC (.int (0)))) (mNil)))) (mCons (mTup (mCons (mC (.str "first")) (mCons (mBin opEq (mBin opIx (mBin opIx (mCall m__law_book_drift (mCons (mVar 0) (mCons (mC (.str "first")) (mNil)))) (mC (.int (1)))) (mC (.int (0)))) (mC (.int (0)))) (mNil)))) (mNil))))))) (mSeq (mApp 6 (mTup (mCons (mC (.str "second")) (mCons (mBin opEq (mBin opIx (mBin opIx (mCall m__law_book_drift (mCons (mVar 0) (mCons (mC (.str "second")) (mNil)))) (mC (.int (0)))) (mC (.int (0)))) (mC (.int (0)))) (mNil))))) (mSeq (mApp 6 (mTup (mCons (mC (.str "first turn")) (mCons (mAnd (mBin opIn (mC (.str "first")) (mVar 5)) (mBin opEq (mBin opIx (mVar 3) (mC (.int (0)))) (mC (.int (0))))) (mNil))))) (mSeq (mApp 6 (mTup (mCons (mC (.str "second turn")) (mCons (mAnd (mBin opIn (mC (.str "second")) (mVar 5)) (mBin opEq (mBin opIx (mVar 4) (mC (.int (0)))) (mC (.int (0))))) (mNil))))) (mSeq (mFrz 6 (mSet 7 (mVal (mOfL (mLc [8, 9] (mItems (mVar 6)) (gTupD 2 (gsCons (gSet 8) (gsCons (gSet 9) (gsNil)))) (mTest (mVar 9)) (mVar 8)))))) (mRet (mIf (mTest (mBin opNe (mVar 7) (mOfL (mLstL (mNil))))) (mBin opIx (mVar 7) (mC (.int (0)))) (mC .non))))))))))
def m__law_book_border : ME := mFun 10 M__law_book_border
/-! _law_rows -/
def M__law_rows : MS := mSeq (mSet 1 (mVal (mOfL (mLc [3] (mItems (mVar 0)) (gSet 3) (mTest (mBin opNe (mBin opIx (mVar 3) (mC (.int (2)))) (mTup (mCons (mC (.int (0))) (mCons (mC (.int (1))) (mNil)))))) (mVar 3))))) (mSeq (mSet 2 (mVal (mCall m__law_frac_less (mCons (mTup (mCons (mC (.int (1))) (mCons (mC (.int (1))) (mNil)))) (mCons (mCall m__law_frac_sum (mCons (mOfL (mLc [3] (mItems (mVar 1)) (gSet 3) (mYes) (mBin opIx (mVar 3) (mC (.int (2)))))) (mNil))) (mNil)))))) (mRet (mBin opAdd (mVar 1) (mIf (mTest (mBin opNe (mVar 2) (mTup (mCons (mC (.int (0))) (mCons (mC (.int (1))) (mNil)))))) (mOfL (mLstL (mCons (mTup (mCons (mC (.int (0))) (mCons (mC (.int (0))) (mCons (mVar 2) (mNil))))) (mNil)))) (mOfL (mLstL (mNil)))))))
def m__law_rows : ME := mFun 4 M__law_rows
/-! _law_handed -/
def M__law_handed : MS := mSeq (mAsg (mVar 0) (gTupD 6 (gsCons (gSet 1) (gsCons (gSet 2) (gsCons (gSet 3) (gsCons (gSet 4) (gsCons (gSet 5) (gsCons (gSet 6) (gsNil))))))))) (mSeq (mSet 7 (mVal (mOfL (mLstL (mCons (mTup (mCons (mC (.int (1))) (mCons (mC (.int (0))) (mCons (mVar 1) (mNil))))) (mCons (mTup (mCons (mC (.int (0))) (mCons (mC (.int (1))) (mCons (mVar 2) (mNil))))) (mNil))))))) (mSeq (mSet 8 (mVal (mOfL (mLstL (mCons (mTup (mCons (mUn opNeg (mC (.int (1)))) (mCons (mC (.int (1))) (mCons (mCall m__law_frac_times (mCons (mVar 3) (mCons (mVar 5) (mNil)))) (mNil))))) (mCons (mTup (mCons (mUn opNeg (mC (.int (1)))) (mCons (mC (.int (0))) (mCons (mCall m__law_frac_times (mCons (mVar 3) (mCons (mCall m__law_frac_less (mCons (mTup (mCons (mC (.int (1))) (mCons (mC (.int (1))) (mNil)))) (mCons (mVar 5) (mNil)))) (mNil)))) (mNil))))) (mNil))))))) (mSeq (mSet 9 (mVal (mOfL (mLstL (mCons (mTup (mCons (mC (.int (1))) (mCons (mUn opNeg (mC (.int (1)))) (mCons (mCall m__law_frac_times (mCons (mVar 4) (mCons (mVar 6) (mNil)))) (mNil))))) (mCons (mTup (mCons (mC (.int (0))) (mCons (mUn opNeg (mC (.int (1)))) (mCons (mCall m__law_frac_times (mCons (mVar 4) (mCons (mCall m__law_frac_less (mCons (mTup (mCons (mC (.int (1))) (mCons (mC (.int (1))) (mNil)))) (mCons (mVar 6) (mNil)))) (mNil)))) (mNil))))) (mNil))))))) (mSeq (mSet 10 (mOwn (mDispD [("inside", mCall m__law_rows (mCons (mBin opAdd (mBin opAdd (mVar 7) (mVar 8)) (mVar 9)) (mNil))), ("first", mCall m__law_rows (mCons (mBin opAdd (mVar 7) (mVar 8)) (mNil)))]))) (mSeq (mUpd 10 (mOfL (mDispD [("second", mCall m__law_rows (mCons (mBin opAdd (mVar 7) (mVar 9)) (mNil))), ("none", mCall m__law_rows (mCons (mVar 7) (mNil)))]))) (mFrz 10 (mRet (mVar 10))))))))
def m__law_handed : ME := mFun 11 M__law_handed
/-! _law_frac_over -/
def M__law_frac_over : MS := mRet (mCall m__law_frac (mCons (mBin opMul (mBin opIx (mVar 0) (mC (.int (0)))) (mBin opIx (mVar 1) (mC (.int (1))))) (mCons (mBin opMul (mBin opIx (mVar 0) (mC (.int (1)))) (mBin opIx (mVar 1) (mC (.int (0))))) (mNil))))
def m__law_frac_over : ME := mFun 2 M__law_frac_over
/-! _law_loads -/
def M__law_loads : MS := mSeq (mAsg (mVar 0) (gTupD 6 (gsCons (gSet 1) (gsCons (gSet 2) (gsCons (gSet 3) (gsCons (gSet 4) (gsCons (gSet 5) (gsCons (gSet 6) (gsNil))))))))) (mSeq (mSet 7 (mVal (mCall m__law_frac_less (mCons (mTup (mCons (mC (.int (1))) (mCons (mC (.int (1))) (mNil)))) (mCons (mCall m__law_frac_times (mCons (mVar 5) (mCons (mVar 6) (mNil)))) (mNil)))))) (mSeq (mSet 8 (mVal (mCall m__law_frac_over (mCons (mCall m__law_frac_plus (mCons (mVar 1) (mCons (mCall m__law_frac_times (mCons (mVar 6) (mCons (mVar 2) (mNil)))) (mNil)))) (mCons (mVar 7) (mNil)))))) (mSeq (mSet 9 (mVal (mCall m__law_frac_over (mCons (mCall m__law_frac_plus (mCons (mVar 2) (mCons (mCall m__law_frac_times (mCons (mVar 5) (mCons (mVar 1) (mNil)))) (mNil)))) (mCons (mVar 7) (mNil)))))) (mRet (mTup (mCons (mCall m__law_frac_over (mCons (mVar 8) (mCons (mVar 3) (mNil)))) (mCons (mCall m__law_frac_over (mCons (mVar 9) (mCons (mVar 4) (mNil)))) (mNil))))))))
def m__law_loads : ME := mFun 10 M__law_loads
/-! _law_book_regions -/
def M__law_book_regions : MS := mRet (mTup (mCons (mC (.str "inside")) (mCons (mC (.str "first")) (mCons (mC (.str "second")) (mCons (mC (.str "none")) (mNil))))))
def m__law_book_regions : ME := mFun 0 M__law_book_regions
/-! _law_frac_text -/
def M__law_frac_text : MS := mRet (mIf (mTest (mBin opEq (mBin opIx (mVar 0) (mC (.int (1)))) (mC (.int (1))))) (mCallN fStr (mCons (mCallN fInt (mCons (mBin opIx (mVar 0) (mC (.int (0)))) (mNil))) (mNil))) (mBin opAdd (mBin opAdd (mCallN fStr (mCons (mCallN fInt (mCons (mBin opIx (mVar 0) (mC (.int (0)))) (mNil))) (mNil))) (mC (.str "/"))) (mCallN fStr (mCons (mCallN fInt (mCons (mBin opIx (mVar 0) (mC (.int (1)))) (mNil))) (mNil)))))
def m__law_frac_text : ME := mFun 1 M__law_frac_text
/-! _law_book_text -/
def M__law_book_text : MS := mSeq (mSet 1 (mOwn (mLstL (mCons (mC (.str "book")) (mNil))))) (mSeq (mFor (mItems (mCall m__law_book_regions mNil)) (gSet 2) (mSeq (mApp 1 (mVar 2)) (mExt 1 (mOfL (mLc [3, 4, 5] (mItems (mBin opIx (mVar 0) (mVar 2))) (gTupD 3 (gsCons (gSet 3) (gsCons (gSet 4) (gsCons (gSet 5) (gsNil))))) (mYes) (mM1 opJoin (mC (.str " ")) (mOfL (mLstL (mCons (mC (.str "step")) (mCons (mCallN fStr (mCons (mVar 3) (mNil))) (mCons (mCallN fStr (mCons (mVar 4) (mNil))) (mCons (mCall m__law_frac_text (mCons (mVar 5) (mNil))) (mNil))))))))))))) (mFrz 1 (mRet (mM1 opJoin (mC (.str "\n")) (mVar 1)))))
def m__law_book_text : ME := mFun 6 M__law_book_text
/-! over -/
def M_over : MS := mRet (mCall m_ratio (mCons (mBin opMul (mBin opIx (mVar 0) (mC (.int (0)))) (mBin opIx (mVar 1) (mC (.int (1))))) (mCons (mBin opMul (mBin opIx (mVar 0) (mC (.int (1)))) (mBin opIx (mVar 1) (mC (.int (0))))) (mNil))))
def m_over : ME := mFun 2 M_over
/-! loads -/
def M_loads : MS := mSeq (mDrop (mCall m_check_handed (mCons (mVar 0) (mCons (mVar 1) (mCons (mVar 2) (mCons (mVar 3) (mCons (mVar 4) (mCons (mVar 5) (mNil))))))))) (mSeq (mSet 6 (mVal (mCall m_less (mCons (mC (.tup [(.int (1)), (.int (1))])) (mCons (mCall m_times (mCons (mVar 4) (mCons (mVar 5) (mNil)))) (mNil)))))) (mSeq (mPar 7 8 (mVal (mCall m_over (mCons (mCall m_plus (mCons (mVar 0) (mCons (mCall m_times (mCons (mVar 5) (mCons (mVar 1) (mNil)))) (mNil)))) (mCons (mVar 6) (mNil))))) (mVal (mCall m_over (mCons (mCall m_plus (mCons (mVar 1) (mCons (mCall m_times (mCons (mVar 4) (mCons (mVar 0) (mNil)))) (mNil)))) (mCons (mVar 6) (mNil)))))) (mRet (mTup (mCons (mCall m_over (mCons (mVar 7) (mCons (mVar 2) (mNil)))) (mCons (mCall m_over (mCons (mVar 8) (mCons (mVar 3) (mNil)))) (mNil)))))))
def m_loads : ME := mFun 9 M_loads
/-! _law_frac_product -/
def M__law_frac_product : MS := mSeq (mSet 1 (mVal (mTup (mCons (mC (.int (1))) (mCons (mC (.int (1))) (mNil)))))) (mSeq (mFor (mItems (mVar 0)) (gSet 2) (mSet 1 (mVal (mCall m__law_frac_times (mCons (mVar 1) (mCons (mVar 2) (mNil))))))) (mRet (mVar 1)))
def m__law_frac_product : ME := mFun 3 M__law_frac_product
/-! _law_are_turns_right -/
def M__law_are_turns_right : MS := mSeq (mAsg (mVar 0) (gTupD 6 (gsCons (gSet 2) (gsCons (gSet 3) (gsCons (gSet 4) (gsCons (gSet 5) (gsCons (gSet 6) (gsCons (gSet 7) (gsNil))))))))) (mSeq (mSet 8 (mVal (mCall m__law_frac_product (mCons (mOfL (mLstL (mCons (mVar 4) (mCons (mVar 5) (mCons (mCall m__law_frac_less (mCons (mTup (mCons (mC (.int (1))) (mCons (mC (.int (1))) (mNil)))) (mCons (mCall m__law_frac_times (mCons (mVar 6) (mCons (mVar 7) (mNil)))) (mNil)))) (mNil)))))) (mNil))))) (mRet (mBin opEq (mCallN fTuple (mCons (mOfL (mLc [9] (mItems (mCall m__law_loads (mCons (mVar 0) (mNil)))) (gSet 9) (mYes) (mCall m__law_frac_times (mCons (mVar 8) (mCons (mCall m__law_frac_less (mCons (mVar 9) (mCons (mTup (mCons (mC (.int (1))) (mCons (mC (.int (1))) (mNil)))) (mNil)))) (mNil)))))) (mNil))) (mVar 1))))
def m__law_are_turns_right : ME := mFun 10 M__law_are_turns_right
/-! is_string -/
def M_is_string : MS := mRet (mAnd (mCallN fIsi (mCons (mVar 0) (mCons (mC (.ty "str")) (mNil)))) (mBin opIn (mVar 0) (mVar 1)))
def m_is_string : ME := mFun 2 M_is_string
/-! check_region -/
def M_check_region : MS := mIfS (mNotT (mTest (mCall m_is_string (mCons (mVar 0) (mCons (mC (.tup [(.str "inside"), (.str "first"), (.str "second"), (.str "none")])) (mNil)))))) (mNever) (mPass)
def m_check_region : ME := mFun 1 M_check_region
/-! region_steps -/
def M_region_steps : MS := mRet (mBin opIx (mUn (opSlot 0 0) (mVar 0)) (mIdx ["inside", "first", "second", "none"] (mVar 1)))
def m_region_steps : ME := mFun 2 M_region_steps
/-! steps_of -/
def M_steps_of : MS := mSeq (mDrop (mCall m_check_region (mCons (mVar 1) (mNil)))) (mRet (mCall m_region_steps (mCons (mVar 0) (mCons (mVar 1) (mNil)))))
def m_steps_of : ME := mFun 2 M_steps_of
/-! drift -/
def M_drift : MS := mSeq (mSet 2 (mVal (mCall m_steps_of (mCons (mVar 0) (mCons (mVar 1) (mNil)))))) (mSeq (mSet 3 (mVal (mCall m_total (mCons (mOfL (mLc [4, 5, 6] (mItems (mVar 2)) (gTupD 3 (gsCons (gSet 4) (gsCons (gSet 5) (gsCons (gSet 6) (gsNil))))) (mYes) (mCall m_times (mCons (mTup (mCons (mVar 4) (mCons (mC (.int (1))) (mNil)))) (mCons (mVar 6) (mNil)))))) (mNil))))) (mRet (mTup (mCons (mVar 3) (mCons (mCall m_total (mCons (mOfL (mLc [4, 5, 6] (mItems (mVar 2)) (gTupD 3 (gsCons (gSet 4) (gsCons (gSet 5) (gsCons (gSet 6) (gsNil))))) (mYes) (mCall m_times (mCons (mTup (mCons (mVar 5) (mCons (mC (.int (1))) (mNil)))) (mCons (mVar 6) (mNil)))))) (mNil))) (mNil))))))
def m_drift : ME := mFun 7 M_drift
/-! asked_sides -/
def M_asked_sides : MS := mSeq (mAsg (mCall m_drift (mCons (mVar 0) (mCons (mC (.str "inside")) (mNil)))) (gTupD 2 (gsCons (gSet 1) (gsCons (gSet 2) (gsNil))))) (mSeq (mPar 3 4 (mVal (mBin opLt (mBin opIx (mVar 2) (mC (.int (0)))) (mC (.int (0))))) (mVal (mBin opLt (mBin opIx (mVar 1) (mC (.int (0)))) (mC (.int (0)))))) (mRet (mCallN fTuple (mCons (mOfL (mLc [5, 6] (mItems (mTup (mCons (mTup (mCons (mC (.str "first")) (mCons (mVar 3) (mNil)))) (mCons (mTup (mCons (mC (.str "second")) (mCons (mVar 4) (mNil)))) (mNil))))) (gTupD 2 (gsCons (gSet 5) (gsCons (gSet 6) (gsNil)))) (mTest (mVar 6)) (mVar 5))) (mNil)))))
def m_asked_sides : ME := mFun 7 M_asked_sides
/-! turns -/
def M_turns : MS := mSeq (mAsg (mOfL (mLc [7] (mItems (mTup (mCons (mC (.str "inside")) (mCons (mC (.str "first")) (mCons (mC (.str "second")) (mNil)))))) (gSet 7) (mYes) (mCall m_drift (mCons (mVar 0) (mCons (mVar 7) (mNil)))))) (gTupD 3 (gsCons (gTupD 2 (gsCons (gSet 1) (gsCons (gSet 2) (gsNil)))) (gsCons (gTupD 2 (gsCons (gSet 3) (gsCons (gSet 4) (gsNil)))) (gsCons (gTupD 2 (gsCons (gSet 5) (gsCons (gSet 6) (gsNil)))) (gsNil)))))) (mRet (mTup (mCons (mCall m_less (mCons (mCall m_times (mCons (mVar 4) (mCons (mVar 1) (mNil)))) (mCons (mCall m_times (mCons (mVar 3) (mCons (mVar 2) (mNil)))) (mNil)))) (mCons (mCall m_less (mCons (mCall m_times (mCons (mVar 5) (mCons (mVar 2) (mNil)))) (mCons (mCall m_times (mCons (mVar 6) (mCons (mVar 1) (mNil)))) (mNil)))) (mNil)))))
def m_turns : ME := mFun 8 M_turns
/-! border -/
def M_border : MS := mSeq (mAsg (mOfL (mLc [12] (mItems (mTup (mCons (mC (.str "inside")) (mCons (mC (.str "first")) (mCons (mC (.str "second")) (mNil)))))) (gSet 12) (mYes) (mCall m_drift (mCons (mVar 0) (mCons (mVar 12) (mNil)))))) (gTupD 3 (gsCons (gTupD 2 (gsCons (gSet 1) (gsCons (gSet 2) (gsNil)))) (gsCons (gTupD 2 (gsCons (gSet 3) (gsCons (gSet 4) (gsNil)))) (gsCons (gTupD 2 (gsCons (gSet 5) (gsCons (gSet 6) (gsNil)))) (gsNil)))))) (mSeq (mFor (mItems (mTup (mCons (mTup (mCons (mC (.str "x")) (mCons (mVar 1) (mNil)))) (mCons (mTup (mCons (mC (.str "y")) (mCons (mVar 2) (mNil)))) (mCons (mTup (mCons (mC (.str "first")) (mCons (mVar 4) (mNil)))) (mCons (mTup (mCons (mC (.str "second")) (mCons (mVar 5) (mNil)))) (mNil))))))) (gTupD 2 (gsCons (gSet 7) (gsCons (gSet 8) (gsNil)))) (mIfS (mTest (mBin opEq (mBin opIx (mVar 8) (mC (.int (0)))) (mC (.int (0))))) (mRet (mVar 7)) (mPass))) (mSeq (mSet 9 (mVal (mCall m_asked_sides (mCons (mVar 0) (mNil))))) (mSeq (mFor (mIt fZ3 (mCons (mTup (mCons (mC (.str "first")) (mCons (mC (.str "second")) (mNil)))) (mCons (mTup (mCons (mC (.str "first turn")) (mCons (mC (.str "second turn")) (mNil)))) (mCons (mCall m_turns (mCons (mVar 0) (mNil))) (mNil))))) (gTupD 3 (gsCons (gSet 10) (gsCons (gSet 7) (gsCons (gSet 11) (gsNil))))) (mIfS (mAndT (mTest (mBin opIn (mVar 10) (mVar 9))) (mTest (mBin opEq (mBin opIx (mVar 11) (mC (.int (0)))) (mC (.int (0)))))) (mRet (mVar 7)) (mPass))) (mRet (mC .non)))))
def m_border : ME := mFun 13 M_border
/-! _law_frac_is_less -/
def M__law_frac_is_less : MS := mRet (mBin opLt (mBin opMul (mBin opIx (mVar 0) (mC (.int (0)))) (mBin opIx (mVar 1) (mC (.int (1))))) (mBin opMul (mBin opIx (mVar 1) (mC (.int (0)))) (mBin opIx (mVar 0) (mC (.int (1))))))
def m__law_frac_is_less : ME := mFun 2 M__law_frac_is_less
/-! check_plain -/
def M_check_plain : MS := mSeq (mSet 1 (mVal (mCall m_border (mCons (mVar 0) (mNil))))) (mIfS (mTest (mBin opIsNot (mVar 1) (mC .non))) (mNever) (mPass))
def m_check_plain : ME := mFun 2 M_check_plain
/-! asked -/
def M_asked : MS := mSeq (mDrop (mCall m_check_plain (mCons (mVar 0) (mNil)))) (mRet (mCall m_asked_sides (mCons (mVar 0) (mNil))))
def m_asked : ME := mFun 1 M_asked
/-! does_come_home -/
def M_does_come_home : MS := mSeq (mSet 1 (mVal (mCall m_asked (mCons (mVar 0) (mNil))))) (mSeq (mSet 2 (mVal (mOfL (mDictL (mOfL (mListZ (mCons (mTup (mCons (mC (.str "first")) (mCons (mC (.str "second")) (mNil)))) (mCons (mCall m_turns (mCons (mVar 0) (mNil))) (mNil))))))))) (mRet (mAnd (mBin opNe (mVar 1) (mTup (mNil))) (mCallN fAll (mCons (mOfL (mLc [3] (mItems (mVar 1)) (gSet 3) (mYes) (mBin opLt (mBin opIx (mBin opIx (mVar 2) (mVar 3)) (mC (.int (0)))) (mC (.int (0)))))) (mNil))))))
def m_does_come_home : ME := mFun 4 M_does_come_home
/-! _law_right -/
def M__law_right : MS := mSeq (mSet 1 (mVal (mCallM m__law_told 0 (mNil)))) (mSeq (mAsg (mVar 1) (gTupD 6 (gsCons (gSet 2) (gsCons (gSet 3) (gsCons (gSet 4) (gsCons (gSet 5) (gsCons (gSet 6) (gsCons (gSet 7) (gsNil))))))))) (mSeq (mPar 8 9 (mVal (mCall m__law_handed (mCons (mVar 1) (mNil)))) (mVal (mCall m__law_loads (mCons (mVar 1) (mNil))))) (mSeq (mSet 10 (mVal (mCall m_handed_on (mPerm [5, 4, 3, 2, 1, 0] (mCons (mVar 7) (mCons (mVar 6) (mCons (mVar 5) (mCons (mVar 4) (mCons (mVar 3) (mCons (mVar 2) (mNil))))))))))) (mSeq (mIfS (mOrT (mTest (mBin opNe (mProp 0 m_Book_text (mVar 10)) (mCall m__law_book_text (mCons (mVar 8) (mNil))))) (mTest (mBin opNe (mCallN fRepr (mCons (mCall m_loads (mCons (mVar 2) (mCons (mVar 3) (mCons (mVar 4) (mCons (mVar 5) (mCons (mVar 6) (mCons (mVar 7) (mNil)))))))) mNil)) (mCallN fRepr (mCons (mVar 9) mNil))))) (mRet (mC (.bl false))) (mPass)) (mSeq (mIfS (mTest (mBin opNe (mCallN fRepr (mCons (mCall m_loads (mPerm [5, 4, 3, 2, 1, 0] (mCons (mVar 6) (mCons (mVar 7) (mCons (mVar 4) (mCons (mVar 5) (mCons (mVar 2) (mCons (mVar 3) (mNil))))))))) mNil)) (mCallN fRepr (mCons (mTup (mCons (mBin opIx (mVar 9) (mC (.int (1)))) (mCons (mBin opIx (mVar 9) (mC (.int (0)))) (mNil)))) mNil)))) (mRet (mC (.bl false))) (mPass)) (mSeq (mIfS (mOrT (mTest (mBin opNe (mCallN fRepr (mCons (mCall m_turns (mCons (mVar 10) (mNil))) mNil)) (mCallN fRepr (mCons (mCall m__law_book_turns (mCons (mVar 8) (mNil))) mNil)))) (mNotT (mTest (mCall m__law_are_turns_right (mCons (mVar 1) (mCons (mCall m__law_book_turns (mCons (mVar 8) (mNil))) (mNil))))))) (mRet (mC (.bl false))) (mPass)) (mSeq (mSet 11 (mVal (mCall m__law_book_border (mCons (mVar 8) (mNil))))) (mSeq (mIfS (mTest (mBin opNe (mCallN fRepr (mCons (mCall m_border (mCons (mVar 10) (mNil))) mNil)) (mCallN fRepr (mCons (mVar 11) mNil)))) (mRet (mC (.bl false))) (mPass)) (mSeq (mSet 12 (mVal (mCallN fAll (mCons (mOfL (mLc [13] (mItems (mVar 9)) (gSet 13) (mYes) (mCall m__law_frac_is_less (mCons (mVar 13) (mCons (mTup (mCons (mC (.int (1))) (mCons (mC (.int (1))) (mNil)))) (mNil)))))) (mNil))))) (mRet (mOr (mBin opIsNot (mVar 11) (mC .non)) (mBin opEq (mCallN fRepr (mCons (mCall m_does_come_home (mCons (mVar 10) (mNil))) mNil)) (mCallN fRepr (mCons (mVar 12) mNil))))))))))))))
def m__law_right : ME := mFun 14 M__law_right
/-! _law_pot -/
def M__law_pot : MSL := mSeqL (mSet 2 (mVal (mIf (mTest (mBin opLt (mVar 1) (mCallN fLen (mCons (mVar 0) (mNil))))) (mBin opIx (mVar 0) (mVar 1)) (mBin opAdd (mBin opAdd (mBin opMod (mCallN fSum (mCons (mSl (mVar 0) (mNoPart) (mPart (mC (.int (1))))) (mNil))) (mC (.int (1000003)))) (mBin opMul (mC (.int (4262))) (mVar 1))) (mC (.int (2766))))))) (mSeqL (mSet 3 (mVal (mBin opMul (mBin opMod (mCallN fInt (mCons (mCallN fAbs (mCons (mVar 2) (mNil))) (mNil))) (mBin opPow (mBin opPow (mC (.int (10))) (mC (.int (60)))) (mC (.int (5))))) (mCallN fInt (mCons (mBin opGe (mCallN fAbs (mCons (mVar 2) (mNil))) (mBin opPow (mC (.int (10))) (mC (.int (18))))) (mNil)))))) (mSeqL (mSet 4 (mVal (mBin opMod (mCallN fInt (mCons (mVar 2) (mNil))) (mC (.int (2305843009213693951)))))) (mRetL (mLstL (mCons (mVar 3) (mCons (mBin opMod (mCallN fInt (mCons (mBin opAdd (mBin opAdd (mBin opMul (mVar 4) (mC (.int (99828)))) (mBin opMul (mBin opMul (mC (.int (17952))) (mVar 1)) (mVar 1))) (mC (.int (3254)))) (mNil))) (mC (.int (2305843009213693921)))) (mCons (mC (.int (0))) (mNil))))))))
def m__law_pot : ML := mFunL 5 M__law_pot
/-! _law_cells -/
def M__law_cells : MS := mRet (mOfL (mListRg (mCallN fMax2 (mCons (mC (.int (1))) (mCons (mCallN fMin2 (mCons (mVar 1) (mCons (mCallN fLen (mCons (mVar 0) (mNil))) (mNil)))) (mNil))))))
def m__law_cells : ME := mFun 2 M__law_cells
/-! law -/
def M_law : MS := mRet (mCallN fAll (mCons (mOfL (mLc [1] (mItems (mCall m__law_cells (mCons (mVar 0) (mCons (mC (.int (2))) (mNil))))) (gSet 1) (mYes) (mCallML m__law_right (mCallL m__law_pot (mCons (mVar 0) (mCons (mVar 1) (mNil)))) (mNil)))) (mNil)))
def m_law : ME := mFun 2 M_law
end
end Mi
namespace DF
open PySem PySem.Spec L2 Evl
/-! ### the mirrors, read -/
theorem size_le {n : Nat} (h : n ≤ 1000000) : n ≤ sizeLine := Nat.le_trans h (by decide)
theorem size_lt {n : Nat} (h : n ≤ 1000000) : n < sizeLine := Nat.lt_of_le_of_lt h (by decide)
theorem log2_le {n k : Nat} (h : n < 2 ^ k) (hk : 0 < k) : n.log2 < k := by
  by_cases h0 : n = 0
  · subst h0; simpa using hk
  · exact (Nat.log2_lt h0).mpr h
/-- not too long for a product, for a divisor -/
def Sm (i : Int) : Prop := i.natAbs < 2 ^ 400000
def Sd (i : Int) : Prop := i ≠ 0 ∧ i.natAbs < 2 ^ 9000
theorem opMul_ok {i j : Int} (hi : Sm i) (hj : Sm j) : opMul (.int i) (.int j) = some (.int (i * j)) := by
  have h1 := log2_le (k := 400000) hi (by decide)
  have h2 := log2_le (k := 400000) hj (by decide)
  simp only [opMul]
  rw [if_pos (by omega)]
theorem opFdiv_ok {i j : Int} (h : Sd j) : opFdiv (.int i) (.int j) = some (.int (i.fdiv j)) := by
  simp only [opFdiv]
  rw [if_pos ⟨h.1, log2_le (k := 9000) h.2 (by decide)⟩]
theorem opMod_ok {i j : Int} (h0 : j ≠ 0) : opMod (.int i) (.int j) = some (.int (i.fmod j)) := by
  simp only [opMod]
  rw [if_pos h0]
theorem natAbs_lt {i : Int} {k : Nat} (h1 : -(2 ^ k) < i) (h2 : i < 2 ^ k) : i.natAbs < 2 ^ k := by
  have : ((i.natAbs : Nat) : Int) < (2 : Int) ^ k := by omega
  exact_mod_cast this
theorem pow_big {n a b : Nat} (h : n < 2 ^ a) (hab : a ≤ b) : n < 2 ^ b := Nat.lt_of_lt_of_le h (Nat.pow_le_pow_right (by decide) hab)

/-! how each part reads at a frame -/
section
variable (ρ : Env)
@[simp] theorem a_mC (d : D) : mC d ρ = .ok (d, ρ) := rfl
@[simp] theorem a_mBin (f : D → D → Option D) (ma mb : ME) : mBin f ma mb ρ = (ma ρ).bind fun x => (mb x.2).bind fun y => (lft (f x.1 y.1)).bind fun d => .ok (d, y.2) := rfl
@[simp] theorem a_mUn (f : D → Option D) (ma : ME) : mUn f ma ρ = (ma ρ).bind fun x => (lft (f x.1)).bind fun d => .ok (d, x.2) := rfl
@[simp] theorem a_mTest (ma : ME) : mTest ma ρ = (ma ρ).bind fun x => (lft (asBl x.1)).bind fun b => .ok (b, x.2) := rfl
@[simp] theorem a_mAnd (ma mb : ME) : mAnd ma mb ρ = (ma ρ).bind fun x => (lft (asBl x.1)).bind fun b => if b = true then mb x.2 else .ok (.bl false, x.2) := rfl
@[simp] theorem a_mOr (ma mb : ME) : mOr ma mb ρ = (ma ρ).bind fun x => (lft (asBl x.1)).bind fun b => if b = true then .ok (.bl true, x.2) else mb x.2 := rfl
@[simp] theorem a_mNot (ma : ME) : mNot ma ρ = (ma ρ).bind fun x => (lft (asBl x.1)).bind fun b => .ok (.bl (!b), x.2) := rfl
@[simp] theorem a_mIf (mt : MT) (ma mb : ME) : mIf mt ma mb ρ = (mt ρ).bind fun x => if x.1 = true then ma x.2 else mb x.2 := rfl
@[simp] theorem a_mAndT (ma mb : MT) : mAndT ma mb ρ = (ma ρ).bind fun x => if x.1 = true then mb x.2 else .ok (false, x.2) := rfl
@[simp] theorem a_mOrT (ma mb : MT) : mOrT ma mb ρ = (ma ρ).bind fun x => if x.1 = true then .ok (true, x.2) else mb x.2 := rfl
@[simp] theorem a_mNotT (ma : MT) : mNotT ma ρ = (ma ρ).bind fun x => .ok (!x.1, x.2) := rfl
@[simp] theorem a_mNil : mNil ρ = .ok ([], ρ) := rfl
@[simp] theorem a_mCons (ma : ME) (mr : MA) : mCons ma mr ρ = (ma ρ).bind fun x => (mr x.2).bind fun y => .ok (x.1 :: y.1, y.2) := rfl
@[simp] theorem a_mTup (ma : MA) : mTup ma ρ = (ma ρ).bind fun x => if x.1.length ≤ sizeLine then .ok (.tup x.1, x.2) else .bad := rfl
@[simp] theorem a_mLstL (ma : MA) : mLstL ma ρ = (ma ρ).bind fun x => if x.1.length ≤ sizeLine then .ok (.lst x.1, x.2) else .bad := rfl
@[simp] theorem a_mOfL (ml : ML) : mOfL ml ρ = (ml ρ).bind fun x => .ok (x.1.toD, x.2) := rfl
@[simp] theorem a_mChain (f g : D → D → Option D) (ma mb mc : ME) : mChain f g ma mb mc ρ = (ma ρ).bind fun x => (mb x.2).bind fun y => (lft (f x.1 y.1)).bind fun d => (lft (asBl d)).bind fun b => if b = true then (mc y.2).bind fun z => (lft (g y.1 z.1)).bind fun d => .ok (d, z.2) else .ok (.bl false, y.2) := rfl
@[simp] theorem a_mIxO (i : Nat) (mb : ME) : mIxO i mb ρ = (lft (ctOf ρ i)).bind fun _ => (mb ρ).bind fun y => (lft (ctOf y.2 i)).bind fun c => (lft (ctIxL c y.1)).bind fun d => .ok (d, y.2) := rfl
@[simp] theorem a_mLenO (i : Nat) : mLenO i ρ = (lft (ctOf ρ i)).bind fun c => (lft (ctLen c)).bind fun d => .ok (d, ρ) := rfl
@[simp] theorem a_mPart (ma : ME) : mPart ma ρ = (ma ρ).bind fun x => (lft (match x.1 with | .int i => some i | _ => none)).bind fun i => .ok (some i, x.2) := rfl
@[simp] theorem a_mNoPart : mNoPart ρ = .ok (none, ρ) := rfl
@[simp] theorem a_mSl (ma : ME) (ml mh : MO) : mSl ma ml mh ρ = (ma ρ).bind fun x => (ml x.2).bind fun l => (mh l.2).bind fun h => (lft (opSl x.1 l.1 h.1)).bind fun d => .ok (d, h.2) := rfl
@[simp] theorem a_mCallN (f : List D → Option D) (ma : MA) : mCallN f ma ρ = (ma ρ).bind fun x => (lft (f x.1)).bind fun d => .ok (d, x.2) := rfl
@[simp] theorem a_mM1 (f : Str → D → Option D) (ma mb : ME) : mM1 f ma mb ρ = (ma ρ).bind fun x => (lft (asStr x.1)).bind fun a => (mb x.2).bind fun y => (lft (f a y.1)).bind fun d => .ok (d, y.2) := rfl
@[simp] theorem a_mVal (m : ME) : mVal m ρ = (m ρ).bind fun x => .ok (.val x.1, x.2) := rfl
@[simp] theorem a_mOwn (m : ML) : mOwn m ρ = (m ρ).bind fun x => .ok (.own x.1, x.2) := rfl
@[simp] theorem a_mSet (i : Nat) (m : MR) : mSet i m ρ = (m ρ).bind fun x => if kd x.2 i ≠ 2 ∧ i < x.2.length then .ok (.nxt (x.2.set i x.1)) else .bad := rfl
@[simp] theorem a_mRet (m : ME) : mRet m ρ = (m ρ).bind fun x => .ok (.ret x.1 x.2) := rfl
@[simp] theorem a_mRetN : mRetN ρ = .ok (.ret .non ρ) := rfl
@[simp] theorem a_mDrop (m : ME) : mDrop m ρ = (m ρ).bind fun x => .ok (.nxt x.2) := rfl
@[simp] theorem a_mPass : mPass ρ = .ok (.nxt ρ) := rfl
theorem a_mSeq (m1 m2 : MS) : mSeq m1 m2 ρ = (m1 ρ).bind fun o => match o with
  | .nxt ρ' => m2 ρ'
  | o => .ok o := rfl
@[simp] theorem a_mIfS (mt : MT) (m1 m2 : MS) : mIfS mt m1 m2 ρ = (mt ρ).bind fun x => if x.1 = true then m1 x.2 else m2 x.2 := rfl
@[simp] theorem a_mFrz (i : Nat) (m : MS) : mFrz i m ρ = m (frz i ρ) := rfl
@[simp] theorem a_mAsg (m : ME) (g : MG) : mAsg m g ρ = (m ρ).bind fun x => (g x.1 x.2).bind fun ρ' => .ok (.nxt ρ') := rfl
@[simp] theorem a_mPar (i j : Nat) (ma mb : MR) : mPar i j ma mb ρ = (ma ρ).bind fun x => (mb x.2).bind fun y => if kd y.2 i ≠ 2 ∧ kd y.2 j ≠ 2 ∧ i < y.2.length ∧ j < y.2.length ∧ i ≠ j then .ok (.nxt ((y.2.set i x.1).set j y.1)) else .bad := rfl
@[simp] theorem a_mItems (m : ME) : mItems m ρ = (m ρ).bind fun x => (lft (itemsOf x.1)).bind fun ds => .ok (ds, x.2) := rfl
@[simp] theorem a_mIt (f : List D → Option (List D)) (m : MA) : mIt f m ρ = (m ρ).bind fun x => (lft (f x.1)).bind fun ds => .ok (ds, x.2) := rfl
@[simp] theorem a_mFor (mi : MI) (g : MG) (mb : MS) : mFor mi g mb ρ = (mi ρ).bind fun x => forGo g mb x.1 x.2 := rfl
@[simp] theorem a_mWhile (fuel : Env → Nat) (mt : MT) (mb : MS) : mWhile fuel mt mb ρ = whileGo mt mb (fuel ρ) ρ := rfl
@[simp] theorem a_mYes : mYes ρ = .ok (true, ρ) := rfl
@[simp] theorem a_mLc (vs : List Nat) (mi : MI) (g : MG) (mt : MT) (me : ME) : mLc vs mi g mt me ρ = (mi ρ).bind fun x => if (vs.all fun v => kd x.2 v == 0) = true then (lcGo vs g mt me x.1 [] (wipeE vs x.2)).bind fun y => .ok (.lst y.1, y.2) else .bad := rfl
@[simp] theorem a_mCall (F : ME) (ma : MA) : mCall F ma ρ = (ma ρ).bind fun x => (lft (okR (F (x.1.map .val)))).bind fun y => .ok (y.1, x.2) := rfl
@[simp] theorem a_mListL (mr : MA) : mListL mr ρ = (mr ρ).bind fun x => (lft (ctList x.1)).bind fun c => .ok (c, x.2) := rfl
@[simp] theorem a_mListRg (me : ME) : mListRg me ρ = (me ρ).bind fun x => (lft (rgL [x.1])).bind fun ds => .ok (.lst ds, x.2) := rfl
@[simp] theorem a_mDNew : mDNew ρ = .ok (.dct [], ρ) := rfl
@[simp] theorem a_mDispD (kms : List (Str × ME)) : mDispD kms ρ = (mKvs kms ρ).bind fun x => .ok (.dct (x.1.foldl (fun acc kv => putD acc kv.1 kv.2) []), x.2) := rfl
@[simp] theorem a_mKvs0 : mKvs [] ρ = .ok ([], ρ) := rfl
@[simp] theorem a_mKvs1 (k : Str) (m : ME) (r : List (Str × ME)) : mKvs ((k, m) :: r) ρ = (m ρ).bind fun x => (mKvs r x.2).bind fun y => .ok ((k, x.1) :: y.1, y.2) := rfl
@[simp] theorem a_mIdx (ys : List Str) (mb : ME) : mIdx ys mb ρ = (mb ρ).bind fun y => (lft (match y.1 with | .str s => idxOf ys s | _ => none)).bind fun j => .ok (.int (j : Nat), y.2) := rfl
@[simp] theorem a_mPerm (is : List Nat) (ma : MA) : mPerm is ma ρ = (ma ρ).bind fun x => (lft (is.mapM fun i => x.1[i]?)).bind fun ds => .ok (ds, x.2) := rfl
theorem a_mFun (n : Nat) (mb : MS) (ss : Env) (h : noOwn ss = true) : mFun n mb ss = (mb (ss ++ List.replicate (n - ss.length) .un)).bind fun o => match o with
    | .ret d ρ' => .ok (d, fin ss ρ')
    | .nxt ρ' => .ok (.non, fin ss ρ')
    | _ => .bad := by unfold mFun; rw [if_pos h]; try rfl
end
@[simp] theorem a_mVar0 (d : D) (r : Env) : mVar 0 (.val d :: r) = .ok (d, .val d :: r) := rfl
theorem a_mVar (i : Nat) {ρ : Env} {d : D} (h : ρ[i]? = some (.val d)) : mVar i ρ = .ok (d, ρ) := by unfold mVar; rw [h]
/-- a statement that falls through, and the rest -/
theorem seq_nxt {m1 m2 : MS} {ρ ρ' : Env} (h : m1 ρ = .ok (.nxt ρ')) : mSeq m1 m2 ρ = m2 ρ' := by unfold mSeq; rw [h]; rfl
theorem seq_ret {m1 m2 : MS} {ρ ρ' : Env} {d : D} (h : m1 ρ = .ok (.ret d ρ')) : mSeq m1 m2 ρ = .ok (.ret d ρ') := by unfold mSeq; rw [h]; rfl
theorem fun_ret {n : Nat} {mb : MS} {ss ρ' : Env} {d : D} (hn : noOwn ss = true) (h : mb (ss ++ List.replicate (n - ss.length) .un) = .ok (.ret d ρ')) : mFun n mb ss = .ok (d, fin ss ρ') := by rw [a_mFun _ _ _ hn, h]; rfl
theorem fun_nxt {n : Nat} {mb : MS} {ss ρ' : Env} (hn : noOwn ss = true) (h : mb (ss ++ List.replicate (n - ss.length) .un) = .ok (.nxt ρ')) : mFun n mb ss = .ok (.non, fin ss ρ') := by rw [a_mFun _ _ _ hn, h]; rfl
/-- the parameters are values: they are as they were -/
theorem fin_vals : ∀ (ds : List D) (ρ' : Env), fin (ds.map .val) ρ' = ds.map .val
  | [], _ => rfl
  | d :: ds, ρ' => by simp [fin, fin_vals ds]

/-! ### fractions -/
def dQ (q : Rat) : D := .tup [.int q.num, .int (q.den : Int)]
/-- the common divisor's loop -/
theorem gcd_loop {t : MT} {b : MS} (ht : ∀ x y : Int, t [.val (.int x), .val (.int y)] = .ok (decide (0 < y), [.val (.int x), .val (.int y)]))
    (hb : ∀ x y : Int, y ≠ 0 → b [.val (.int x), .val (.int y)] = .ok (.nxt [.val (.int y), .val (.int (x.fmod y))])) :
    ∀ (n : Nat) (x y : Int), 0 ≤ x → 0 ≤ y → y.natAbs < n → whileGo t b n [.val (.int x), .val (.int y)] = .ok (.nxt [.val (.int (Int.gcd x y)), .val (.int 0)])
  | 0, x, y, _, _, h => by omega
  | n + 1, x, y, hx, hy, h => by
    unfold whileGo
    rw [ht]
    simp only [bind_ok]
    by_cases h0 : 0 < y
    · rw [if_pos (by simpa using h0), hb x y (by omega)]
      simp only [bind_ok]
      have e1 : x.fmod y = x % y := Int.fmod_eq_emod_of_nonneg x hy
      have l1 := Int.emod_nonneg x (show y ≠ 0 by omega)
      have l2 := Int.emod_lt_of_pos x h0
      rw [gcd_loop ht hb n y (x.fmod y) hy (by omega) (by omega), e1]
      obtain ⟨m, rfl⟩ := Int.eq_ofNat_of_zero_le hx
      obtain ⟨k, rfl⟩ := Int.eq_ofNat_of_zero_le hy
      have e2 : Int.gcd (k : Int) ((m : Int) % (k : Int)) = Int.gcd (m : Int) (k : Int) := by
        rw [← Int.natCast_emod, Int.gcd_natCast_natCast, Int.gcd_natCast_natCast, Nat.gcd_comm k, ← Nat.gcd_rec, Nat.gcd_comm]
      rw [e2]
    · rw [if_neg (by simpa using h0)]
      have : y = 0 := by omega
      subst this
      simp
      omega


theorem abs_eq (a : Int) : (if a < 0 then -a else a) = (a.natAbs : Int) := by split <;> omega
theorem m_common_ok (a b : Int) : Mi.m_common [.val (.int a), .val (.int b)] = .ok (.int (Int.gcd a b), [.val (.int a), .val (.int b)]) := by
  refine fun_ret (ρ' := [.val (.int (Int.gcd a b)), .val (.int 0)]) rfl ?_
  refine (seq_nxt (ρ' := [.val (.int a.natAbs), .val (.int b.natAbs)]) ?_).trans ((seq_nxt (ρ' := [.val (.int (Int.gcd a b)), .val (.int 0)]) ?_).trans rfl)
  · simp [fAbs, kd, mVar, abs_eq]
  · have := gcd_loop (t := mTest (mBin opGt (mVar 1) (mC (.int 0)))) (b := mPar 0 1 (mVal (mVar 1)) (mVal (mBin opMod (mVar 0) (mVar 1)))) (fun x y => rfl) (fun x y h => by simp [mVar, opMod_ok h, kd]) (b.natAbs + 1) a.natAbs b.natAbs (by omega) (by omega) (by omega)
    simp only [a_mWhile, fuelAbs]
    rw [show ([.val (.int a.natAbs), .val (.int b.natAbs)] : Env)[1]? = some (.val (.int b.natAbs)) from rfl]
    simp only [Int.natAbs_natCast]
    rw [this]
    simp [Int.gcd]
theorem m__law_frac_common_ok (a b : Int) : Mi.m__law_frac_common [.val (.int a), .val (.int b)] = .ok (.int (Int.gcd a b), [.val (.int a), .val (.int b)]) := by
  refine fun_ret (ρ' := [.val (.int (Int.gcd a b)), .val (.int 0)]) rfl ?_
  refine (seq_nxt (ρ' := [.val (.int a.natAbs), .val (.int b.natAbs)]) ?_).trans ((seq_nxt (ρ' := [.val (.int (Int.gcd a b)), .val (.int 0)]) ?_).trans rfl)
  · simp [fAbs, kd, mVar, abs_eq]
  · have := gcd_loop (t := mTest (mBin opGt (mVar 1) (mC (.int 0)))) (b := mPar 0 1 (mVal (mVar 1)) (mVal (mBin opMod (mCallN fInt (mCons (mVar 0) (mNil))) (mVar 1)))) (fun x y => rfl) (fun x y h => by simp [mVar, opMod_ok h, kd, fInt]) (b.natAbs + 1) a.natAbs b.natAbs (by omega) (by omega) (by omega)
    simp only [a_mWhile, fuelAbs]
    rw [show ([.val (.int a.natAbs), .val (.int b.natAbs)] : Env)[1]? = some (.val (.int b.natAbs)) from rfl]
    simp only [Int.natAbs_natCast]
    rw [this]
    simp [Int.gcd]
theorem divInt_num (a b : Int) (hb : b ≠ 0) (by_ : Int) (h : by_ = if 0 < b then (Int.gcd a b : Int) else -(Int.gcd a b : Int)) : a.fdiv by_ = (Rat.divInt a b).num ∧ b.fdiv by_ = ((Rat.divInt a b).den : Int) := by
  have hg : (0 : Int) < Int.gcd a b := by exact_mod_cast Int.gcd_pos_of_ne_zero_right a hb
  have ha := Int.gcd_dvd_left a b
  have hb' := Int.gcd_dvd_right a b
  rw [Rat.num_divInt, Rat.den_divInt, if_neg hb, Int.gcd_comm b a]
  generalize Int.gcd a b = n at *
  obtain ⟨k, hk⟩ := ha
  obtain ⟨m, hm⟩ := hb'
  have hn : (n : Int) ≠ 0 := by omega
  by_cases h0 : 0 < b
  · rw [if_pos h0] at h
    subst h
    rw [Int.sign_eq_one_of_pos h0, Int.one_mul]
    refine ⟨Int.fdiv_eq_ediv_of_nonneg _ (by omega), ?_⟩
    rw [Int.natCast_ediv, Int.natAbs_of_nonneg (by omega)]
    exact Int.fdiv_eq_ediv_of_nonneg _ (by omega)
  · rw [if_neg h0] at h
    subst h
    have hs : b.sign = -1 := Int.sign_eq_neg_one_of_neg (by omega)
    have hab : (b.natAbs : Int) = -b := by omega
    rw [Int.natCast_ediv, hab, hs, hk, hm]
    have e1 : (n : Int) * k = (-(n : Int)) * (-k) := (Int.neg_mul_neg _ _).symm
    have e2 : (n : Int) * m = (-(n : Int)) * (-m) := (Int.neg_mul_neg _ _).symm
    refine ⟨?_, ?_⟩
    · rw [show -1 * ((n : Int) * k) = n * (-k) by rw [Int.neg_mul, Int.one_mul, Int.mul_neg], Int.mul_ediv_cancel_left _ hn, e1, Int.mul_fdiv_cancel_left _ (by omega)]
    · rw [show -((n : Int) * m) = n * (-m) by rw [Int.mul_neg], Int.mul_ediv_cancel_left _ hn, e2, Int.mul_fdiv_cancel_left _ (by omega)]
theorem gcd_small {a b : Int} (hb0 : b ≠ 0) {k : Nat} (hb : b.natAbs < 2 ^ k) : Int.gcd a b < 2 ^ k := Nat.lt_of_le_of_lt (Int.gcd_le_natAbs_right a hb0) hb
theorem m_ratio_ok {a b : Int} (hb : Sd b) : Mi.m_ratio [.val (.int a), .val (.int b)] = .ok (dQ (Rat.divInt a b), [.val (.int a), .val (.int b)]) := by
  have hb0 := hb.1
  have hg := gcd_small (k := 9000) (a := a) hb0 hb.2
  have hgp : 0 < Int.gcd a b := Int.gcd_pos_of_ne_zero_right a hb0
  let w : Int := if 0 < b then (Int.gcd a b : Int) else -(Int.gcd a b : Int)
  have hw : Sd w := by
    refine ⟨?_, ?_⟩
    · show (if 0 < b then _ else _) ≠ (0 : Int); split <;> omega
    · have : w.natAbs = Int.gcd a b := by show (if 0 < b then _ else _ : Int).natAbs = _; split <;> omega
      rw [this]; exact hg
  obtain ⟨h1, h2⟩ := divInt_num a b hb0 w rfl
  refine fun_ret (ρ' := [.val (.int a), .val (.int b), .val (.int w)]) rfl ?_
  refine (seq_nxt (ρ' := [.val (.int a), .val (.int b), .val (.int (Int.gcd a b))]) ?_).trans ((seq_nxt (ρ' := [.val (.int a), .val (.int b), .val (.int w)]) ?_).trans ?_)
  · simp [kd, mVar, m_common_ok]
  · simp only [a_mSet, a_mVal, a_mIf, a_mTest, a_mBin, a_mC, mVar, opGt, opSub, asBl]
    by_cases h : 0 < b
    · simp [w, h, kd]
    · simp [w, h, kd]
  · simp [mVar, opFdiv_ok hw, h1, h2, size_le, dQ]
theorem m__law_frac_ok {a b : Int} (hb : Sd b) : Mi.m__law_frac [.val (.int a), .val (.int b)] = .ok (dQ (Rat.divInt a b), [.val (.int a), .val (.int b)]) := by
  have hb0 := hb.1
  have hg := gcd_small (k := 9000) (a := a) hb0 hb.2
  have hgp : 0 < Int.gcd a b := Int.gcd_pos_of_ne_zero_right a hb0
  let w : Int := if 0 < b then (Int.gcd a b : Int) else -(Int.gcd a b : Int)
  have hw : Sd w := by
    refine ⟨?_, ?_⟩
    · show (if 0 < b then _ else _) ≠ (0 : Int); split <;> omega
    · have : w.natAbs = Int.gcd a b := by show (if 0 < b then _ else _ : Int).natAbs = _; split <;> omega
      rw [this]; exact hg
  obtain ⟨h1, h2⟩ := divInt_num a b hb0 w rfl
  refine fun_ret (ρ' := [.val (.int a), .val (.int b), .val (.int w)]) rfl ?_
  refine (seq_nxt (ρ' := [.val (.int a), .val (.int b), .val (.int (Int.gcd a b))]) ?_).trans ((seq_nxt (ρ' := [.val (.int a), .val (.int b), .val (.int w)]) ?_).trans ?_)
  · simp [kd, mVar, m__law_frac_common_ok]
  · simp only [a_mSet, a_mVal, a_mIf, a_mTest, a_mBin, a_mUn, a_mC, mVar, opGt, opNeg, asBl]
    by_cases h : 0 < b
    · simp [w, h, kd]
    · simp [w, h, kd]
  · simp [mVar, opFdiv_ok hw, h1, h2, size_le, dQ]
/-- numbers of a fraction, not too long -/
structure QB (k : Nat) (q : Rat) : Prop where
  num : q.num.natAbs < 2 ^ k
  den : q.den < 2 ^ k
theorem ix0 (x y : D) : opIx (.tup [x, y]) (.int 0) = some x := rfl
theorem ix1 (x y : D) : opIx (.tup [x, y]) (.int 1) = some y := rfl
theorem mul_big {a b k : Nat} (ha : a < 2 ^ k) (hb : b < 2 ^ k) : a * b < 2 ^ (2 * k) := by
  rw [Nat.two_mul, Nat.pow_add]
  exact Nat.mul_lt_mul'' ha hb
theorem divInt_add (p q : Rat) : Rat.divInt (p.num * q.den + q.num * p.den) (p.den * q.den) = p + q := by
  have := Rat.divInt_add_divInt p.num q.num (d₁ := p.den) (d₂ := q.den) (by exact_mod_cast p.den_nz) (by exact_mod_cast q.den_nz)
  rw [← this, Rat.num_divInt_den, Rat.num_divInt_den]
theorem QB.smd {p : Rat} (h : QB 4000 p) : Sm (p.den : Int) := pow_big h.den (by decide)
theorem QB.smn {p : Rat} (h : QB 4000 p) : Sm p.num := pow_big h.num (by decide)
theorem QB.sd {p q : Rat} (hp : QB 4000 p) (hq : QB 4000 q) : Sd ((p.den : Int) * (q.den : Int)) := by
  refine ⟨?_, ?_⟩
  · have := p.den_nz; have := q.den_nz
    simp [*]
  · rw [Int.natAbs_mul]
    exact pow_big (mul_big hp.den hq.den) (by decide)
theorem m_plus_ok {p q : Rat} (hp : QB 4000 p) (hq : QB 4000 q) : Mi.m_plus [.val (dQ p), .val (dQ q)] = .ok (dQ (p + q), [.val (dQ p), .val (dQ q)]) := by
  have b1 := hp.smd
  have b2 := hq.smd
  have b3 := hp.smn
  have b4 := hq.smn
  have hd := hp.sd hq
  refine fun_ret (ρ' := [.val (dQ p), .val (dQ q)]) rfl ?_
  unfold Mi.M_plus
  simp [mVar, dQ, ix0, ix1, opMul_ok, b1, b2, b3, b4, opAdd, m_ratio_ok hd]
  rw [divInt_add]
  exact ⟨rfl, rfl⟩
theorem m__law_frac_plus_ok {p q : Rat} (hp : QB 4000 p) (hq : QB 4000 q) : Mi.m__law_frac_plus [.val (dQ p), .val (dQ q)] = .ok (dQ (p + q), [.val (dQ p), .val (dQ q)]) := by
  have b1 := hp.smd
  have b2 := hq.smd
  have b3 := hp.smn
  have b4 := hq.smn
  have hd := hp.sd hq
  refine fun_ret (ρ' := [.val (dQ p), .val (dQ q)]) rfl ?_
  unfold Mi.M__law_frac_plus
  simp [mVar, dQ, ix0, ix1, opMul_ok, b1, b2, b3, b4, opAdd, m__law_frac_ok hd]
  rw [divInt_add]
  exact ⟨rfl, rfl⟩
/-! ### loops -/
theorem forGo_inv {g : MG} {mb : MS} {ds : List D} (I : Nat → Env → Prop) (ρ0 : Env) (h0 : I 0 ρ0) (step : ∀ (i : Nat) (d : D) (ρ : Env), ds[i]? = some d → I i ρ → ∃ ρ1, g d ρ = .ok ρ1 ∧ ∃ ρ2, mb ρ1 = .ok (.nxt ρ2) ∧ I (i + 1) ρ2) :
    ∃ ρ', forGo g mb ds ρ0 = .ok (.nxt ρ') ∧ I ds.length ρ' := by
  have key : ∀ (r : List D) (k : Nat) (ρ : Env), (∀ i, r[i]? = ds[k + i]?) → k + r.length = ds.length → I k ρ → ∃ ρ', forGo g mb r ρ = .ok (.nxt ρ') ∧ I ds.length ρ' := by
    intro r
    induction r with
    | nil => intro k ρ _ hk h; exact ⟨ρ, rfl, by simp at hk; rw [← hk]; exact h⟩
    | cons d r ih =>
      intro k ρ hr hk h
      obtain ⟨ρ1, e1, ρ2, e2, h2⟩ := step k d ρ (by have := hr 0; simpa using this.symm) h
      obtain ⟨ρ', e3, h3⟩ := ih (k + 1) ρ2 (fun i => by have := hr (i + 1); simpa [Nat.add_assoc, Nat.add_comm 1 i] using this) (by simp at hk; omega) h2
      exact ⟨ρ', by unfold forGo; rw [e1]; simp only [bind_ok]; rw [e2]; simp only [bind_ok]; exact e3, h3⟩
  exact key ds 0 ρ0 (fun i => by simp) (by simp) h0
/-- a comprehension that leaves the frame as it is -/
theorem lcGo_pure {vs : List Nat} {g : MG} {mt : MT} {me : ME} {ρ : Env} (f : D → Option D) : ∀ (ds acc : List D), acc.length + ds.length ≤ 1000000 →
    (∀ d ∈ ds, ∃ ρ1, g d ρ = .ok ρ1 ∧ ∃ b ρ2, mt ρ1 = .ok (b, ρ2) ∧ (match f d with
      | some y => b = true ∧ ∃ ρ3, me ρ2 = .ok (y, ρ3) ∧ wipeE vs ρ3 = ρ
      | none => b = false ∧ wipeE vs ρ2 = ρ)) → lcGo vs g mt me ds acc ρ = .ok (acc ++ ds.filterMap f, ρ)
  | [], acc, _, _ => by simp [lcGo]
  | d :: ds, acc, hl, h => by
    obtain ⟨ρ1, e1, b, ρ2, e2, h2⟩ := h d (List.mem_cons_self ..)
    unfold lcGo
    rw [e1]
    simp only [ne_ok, bind_ok]
    rw [e2]
    simp only [ne_ok, bind_ok]
    simp only [List.length_cons] at hl
    cases hf : f d with
    | some y =>
      rw [hf] at h2
      obtain ⟨rfl, ρ3, e3, e4⟩ := h2
      simp only [if_true]
      rw [e3]
      simp only [ne_ok, bind_ok]
      rw [if_pos (size_lt (by omega)), e4, lcGo_pure f ds (acc ++ [y]) (by simp; omega) fun d hd => h d (List.mem_cons_of_mem _ hd)]
      simp [List.filterMap_cons, hf]
    | none =>
      rw [hf] at h2
      obtain ⟨rfl, e4⟩ := h2
      simp only [Bool.false_eq_true, if_false]
      rw [e4, lcGo_pure f ds acc (by omega) fun d hd => h d (List.mem_cons_of_mem _ hd)]
      simp [List.filterMap_cons, hf]
/-- .. every item kept -/
theorem lcGo_map {vs : List Nat} {g : MG} {mt : MT} {me : ME} {ρ : Env} (f : D → D) (ds : List D) (hl : ds.length ≤ 1000000)
    (h : ∀ d ∈ ds, ∃ ρ1, g d ρ = .ok ρ1 ∧ ∃ ρ2, mt ρ1 = .ok (true, ρ2) ∧ ∃ ρ3, me ρ2 = .ok (f d, ρ3) ∧ wipeE vs ρ3 = ρ) : lcGo vs g mt me ds [] ρ = .ok (ds.map f, ρ) := by
  rw [lcGo_pure (fun d => some (f d)) ds [] (by simpa using hl) fun d hd => ?_]
  · simp
  · obtain ⟨ρ1, e1, ρ2, e2, ρ3, e3, e4⟩ := h d hd
    exact ⟨ρ1, e1, true, ρ2, e2, rfl, ρ3, e3, e4⟩
/-- a comprehension that changes the frame -/
theorem lcGo_inv {vs : List Nat} {g : MG} {me : ME} (I : Nat → List D → Env → Prop) (ds : List D) (hl : ds.length ≤ 1000000) (ρ0 : Env) (h0 : I 0 [] ρ0)
    (step : ∀ (i : Nat) (d : D) (acc : List D) (ρ : Env), ds[i]? = some d → acc.length = i → I i acc ρ → ∃ ρ1, g d ρ = .ok ρ1 ∧ ∃ y ρ2, me ρ1 = .ok (y, ρ2) ∧ I (i + 1) (acc ++ [y]) (wipeE vs ρ2)) :
    ∃ ys ρ', lcGo vs g mYes me ds [] ρ0 = .ok (ys, ρ') ∧ ys.length = ds.length ∧ I ds.length ys ρ' := by
  have key : ∀ (r : List D) (k : Nat) (acc : List D) (ρ : Env), (∀ i, r[i]? = ds[k + i]?) → k + r.length = ds.length → acc.length = k → I k acc ρ → ∃ ys ρ', lcGo vs g mYes me r acc ρ = .ok (ys, ρ') ∧ ys.length = ds.length ∧ I ds.length ys ρ' := by
    intro r
    induction r with
    | nil => intro k acc ρ _ hk ha h; exact ⟨acc, ρ, rfl, by simp at hk; omega, by simp at hk; rw [← hk]; exact h⟩
    | cons d r ih =>
      intro k acc ρ hr hk ha h
      obtain ⟨ρ1, e1, y, ρ2, e2, h2⟩ := step k d acc ρ (by have := hr 0; simpa using this.symm) ha h
      obtain ⟨ys, ρ', e3, h3⟩ := ih (k + 1) (acc ++ [y]) _ (fun i => by have := hr (i + 1); simpa [Nat.add_assoc, Nat.add_comm 1 i] using this) (by simp at hk; omega) (by simp [ha]) h2
      refine ⟨ys, ρ', ?_, h3⟩
      unfold lcGo
      rw [e1]
      simp only [ne_ok, bind_ok, a_mYes]
      rw [e2]
      simp only [ne_ok, bind_ok, if_true]
      simp only [List.length_cons] at hk
      rw [if_pos (size_lt (by omega))]
      exact e3
  exact key ds 0 [] ρ0 (fun i => by simp) (by simp) rfl h0

def qsum (qs : List Rat) : Rat := qs.foldl (· + ·) 0
/-- every part of the sum is not too long -/
def QS (qs : List Rat) : Prop := (∀ q ∈ qs, QB 4000 q) ∧ ∀ i, QB 4000 (qsum (qs.take i))
theorem qsum_take {qs : List Rat} {i : Nat} {q : Rat} (h : qs[i]? = some q) : qsum (qs.take (i + 1)) = qsum (qs.take i) + q := by
  unfold qsum
  rw [List.take_add_one, h]
  simp
def isPl : Slot → Bool
  | .un => true
  | .val _ => true
  | _ => false
theorem m_total_ok {qs : List Rat} (h : QS qs) : Mi.m_total [.val (.lst (qs.map dQ))] = .ok (dQ (qsum qs), [.val (.lst (qs.map dQ))]) := by
  obtain ⟨ρ', e, hI⟩ := forGo_inv (g := gSet 2) (mb := mSet 1 (mVal (mCall Mi.m_plus (mCons (mVar 1) (mCons (mVar 2) (mNil)))))) (ds := qs.map dQ) (fun i ρ => ∃ s, isPl s = true ∧ ρ = [.val (.lst (qs.map dQ)), .val (dQ (qsum (qs.take i))), s])
    [.val (.lst (qs.map dQ)), .val (dQ 0), .un] ⟨.un, rfl, rfl⟩ (fun i d ρ hd hI => by
      obtain ⟨s, hs, rfl⟩ := hI
      rw [List.getElem?_map] at hd
      obtain ⟨q, hq, rfl⟩ := Option.map_eq_some_iff.mp hd
      have hk : kd [.val (.lst (qs.map dQ)), .val (dQ (qsum (qs.take i))), s] 2 ≠ 2 := by cases s <;> simp [kd, isPl] at hs ⊢
      refine ⟨[.val (.lst (qs.map dQ)), .val (dQ (qsum (qs.take i))), .val (dQ q)], by unfold gSet; rw [if_pos hk]; rfl, _, ?_, .val (dQ q), rfl, rfl⟩
      have := m_plus_ok (h.2 i) (h.1 q (List.mem_of_getElem? hq))
      simp [mVar, this, kd]
      rw [← qsum_take hq])
  obtain ⟨s, hs, rfl⟩ := hI
  refine fun_ret (ρ' := [.val (.lst (qs.map dQ)), .val (dQ (qsum (qs.take (qs.map dQ).length))), s]) rfl ?_
  have ht : qs.take (qs.map dQ).length = qs := by simp
  rw [ht] at e ⊢
  refine (seq_nxt (ρ' := [.val (.lst (qs.map dQ)), .val (dQ 0), .un]) ?_).trans ((seq_nxt (ρ' := [.val (.lst (qs.map dQ)), .val (dQ (qsum qs)), s]) ?_).trans ?_)
  · simp [kd, size_le]; rfl
  · simp [itemsOf]; exact e
  · simp [mVar]
theorem m__law_frac_sum_ok {qs : List Rat} (h : QS qs) : Mi.m__law_frac_sum [.val (.lst (qs.map dQ))] = .ok (dQ (qsum qs), [.val (.lst (qs.map dQ))]) := by
  obtain ⟨ρ', e, hI⟩ := forGo_inv (g := gSet 2) (mb := mSet 1 (mVal (mCall Mi.m__law_frac_plus (mCons (mVar 1) (mCons (mVar 2) (mNil)))))) (ds := qs.map dQ) (fun i ρ => ∃ s, isPl s = true ∧ ρ = [.val (.lst (qs.map dQ)), .val (dQ (qsum (qs.take i))), s])
    [.val (.lst (qs.map dQ)), .val (dQ 0), .un] ⟨.un, rfl, rfl⟩ (fun i d ρ hd hI => by
      obtain ⟨s, hs, rfl⟩ := hI
      rw [List.getElem?_map] at hd
      obtain ⟨q, hq, rfl⟩ := Option.map_eq_some_iff.mp hd
      have hk : kd [.val (.lst (qs.map dQ)), .val (dQ (qsum (qs.take i))), s] 2 ≠ 2 := by cases s <;> simp [kd, isPl] at hs ⊢
      refine ⟨[.val (.lst (qs.map dQ)), .val (dQ (qsum (qs.take i))), .val (dQ q)], by unfold gSet; rw [if_pos hk]; rfl, _, ?_, .val (dQ q), rfl, rfl⟩
      have := m__law_frac_plus_ok (h.2 i) (h.1 q (List.mem_of_getElem? hq))
      simp [mVar, this, kd]
      rw [← qsum_take hq])
  obtain ⟨s, hs, rfl⟩ := hI
  refine fun_ret (ρ' := [.val (.lst (qs.map dQ)), .val (dQ (qsum (qs.take (qs.map dQ).length))), s]) rfl ?_
  have ht : qs.take (qs.map dQ).length = qs := by simp
  rw [ht] at e ⊢
  refine (seq_nxt (ρ' := [.val (.lst (qs.map dQ)), .val (dQ 0), .un]) ?_).trans ((seq_nxt (ρ' := [.val (.lst (qs.map dQ)), .val (dQ (qsum qs)), s]) ?_).trans ?_)
  · simp [kd, size_le]; rfl
  · simp [itemsOf]; exact e
  · simp [mVar]
end DF
namespace DF
open PySem PySem.Spec L2 Evl
/-! ### draws -/
def PotOk (n : Nat) (pot : List D) : Prop := ∃ a b c : Int, pot = [.int a, .int b, .int c] ∧ 0 ≤ a ∧ 0 ≤ b ∧ b < 2 ^ 61 ∧ 0 ≤ c ∧ c ≤ n
theorem PotOk.mono {n m : Nat} {pot : List D} (h : PotOk n pot) (k : n ≤ m) : PotOk m pot := by
  obtain ⟨a, b, c, e, h1, h2, h3, h4, h5⟩ := h
  exact ⟨a, b, c, e, h1, h2, h3, h4, by omega⟩
@[simp] theorem a_mSetIx (i : Nat) (mv mi : ME) (ρ : Env) : mSetIx i mv mi ρ = (mv ρ).bind fun x => (lft (ctL x.2 i)).bind fun _ => (mi x.2).bind fun y => (lft (match y.1 with | .int k => some k | _ => none)).bind fun k => (lft (ctL y.2 i)).bind fun ds =>
  (lft (L2.ixN ds.length k)).bind fun j => .ok (.nxt (setCt y.2 i (.lst (ds.set j x.1)))) := rfl
@[simp] theorem ct_pin (c : Ct) (r : Env) : ctOf (.pin c :: r) 0 = some c := rfl
@[simp] theorem ctL_pin (ds : List D) (r : Env) : ctL (.pin (.lst ds) :: r) 0 = some ds := rfl
@[simp] theorem set_pin (c c' : Ct) (r : Env) : setCt (.pin c :: r) 0 c' = .pin c' :: r := rfl
@[simp] theorem at3_0 (x y z : D) : L2.atI [x, y, z] 0 = some x := rfl
@[simp] theorem at3_1 (x y z : D) : L2.atI [x, y, z] 1 = some y := rfl
@[simp] theorem at3_2 (x y z : D) : L2.atI [x, y, z] 2 = some z := rfl
@[simp] theorem ix3_0 : L2.ixN 3 0 = some 0 := rfl
@[simp] theorem ix3_2 : L2.ixN 3 2 = some 2 := rfl
theorem sm_lit {i : Int} (h : i.natAbs < 2 ^ 200) : Sm i := pow_big h (by decide)
theorem sm_le {i : Int} (h0 : 0 ≤ i) (h : i < 2 ^ 200) : Sm i := sm_lit (by omega)
theorem fdiv_nn {a b : Int} (ha : 0 ≤ a) (hb : 0 < b) : 0 ≤ a.fdiv b := Int.fdiv_nonneg ha (by omega)
theorem fmod_nn (a : Int) {b : Int} (hb : 0 < b) : 0 ≤ a.fmod b ∧ a.fmod b < b := ⟨Int.fmod_nonneg_of_pos a hb, Int.fmod_lt_of_pos a hb⟩
theorem opPow_ok {i : Int} {k : Nat} (h0 : 0 ≤ i) (h : i < 2 ^ 200) (hk : k ≤ 100) : opPow (.int i) (.int k) = some (.int (i ^ k)) := by
  have hb : Builtin.Int.intBits i ≤ 201 := by
    unfold Builtin.Int.intBits
    split
    · omega
    · have := log2_le (n := i.natAbs) (k := 200) (by omega) (by decide)
      omega
  simp only [opPow]
  have : 0 ≤ (k : Int) ∧ (Builtin.Int.intBits i : Int) * k ≤ 134217728 := by
    refine ⟨by omega, ?_⟩
    have : (Builtin.Int.intBits i : Int) * k ≤ 201 * 100 := by
      apply Int.mul_le_mul <;> omega
    omega
  rw [if_pos this]
  simp
theorem prime_ok (k : Int) (h0 : 0 ≤ k) (h5 : k < 5) : ∃ p : Int, opIx (.lst [.int 2147483647, .int 2147483629, .int 2147483587, .int 2147483579, .int 2147483563]) (.int k) = some (.int p) ∧ 0 < p ∧ p < 2 ^ 32 := by
  have : k = 0 ∨ k = 1 ∨ k = 2 ∨ k = 3 ∨ k = 4 := by omega
  rcases this with rfl | rfl | rfl | rfl | rfl
  · exact ⟨_, rfl, by omega, by omega⟩
  · exact ⟨_, rfl, by omega, by omega⟩
  · exact ⟨_, rfl, by omega, by omega⟩
  · exact ⟨_, rfl, by omega, by omega⟩
  · exact ⟨_, rfl, by omega, by omega⟩
theorem take_ok {n : Nat} {pot : List D} {u : Int} (h : PotOk n pot) (hn : n < 2 ^ 60) (hu : 0 < u) (hd : Sd u) :
    ∃ r pot', Mi.m__law_take [.pin (.lst pot), .val (.int u)] = .ok (.int r, [.pin (.lst pot'), .val (.int u)]) ∧ 0 ≤ r ∧ r < u ∧ PotOk (n + 1) pot' := by
  obtain ⟨a, b, c, rfl, ha, hb, hb', hc, hc'⟩ := h
  by_cases h0 : 0 < a
  · refine ⟨a.fmod u, [.int (a.fdiv u), .int b, .int c], ?_, (fmod_nn a hu).1, (fmod_nn a hu).2, _, _, _, rfl, fdiv_nn ha hu, hb, hb', hc, by omega⟩
    refine fun_ret (ρ' := [.pin (.lst [.int (a.fdiv u), .int b, .int c]), .val (.int u), .val (.int (a.fmod u)), .un, .un]) rfl ?_
    unfold Mi.M__law_take
    refine seq_ret ?_
    simp [ctIxL, opGt, asBl, h0, a_mSeq, fInt, mVar, opMod_ok hd.1, opFdiv_ok hd, kd]
  · have ha0 : a = 0 := by omega
    subst ha0
    generalize hc1 : c + 1 = c1
    have q1 : c1 < 2 ^ 61 := by omega
    have q0 : 0 ≤ c1 := by omega
    obtain ⟨p, hp, hp0, hp1⟩ := prime_ok (c1.fmod 5) (fmod_nn c1 (by decide)).1 (fmod_nn c1 (by decide)).2
    have m1 : 117994 * c1 < 2 ^ 80 := by omega
    have m2 : 117994 * c1 * c1 ≤ 2 ^ 80 * 2 ^ 61 := Int.mul_le_mul (by omega) (by omega) q0 (by omega)
    have m3 : 0 ≤ 117994 * c1 * c1 := Int.mul_nonneg (by omega) q0
    generalize hE : b + 117994 * c1 * c1 + 4140 = E
    have e0 : 0 ≤ E := by omega
    have e1 : E < 2 ^ 200 := by omega
    obtain ⟨b10, b11⟩ := fmod_nn (E ^ 3) hp0
    generalize hB : (E ^ 3).fmod p = B at *
    obtain ⟨r10, r11⟩ := fmod_nn B (b := 16030) (by decide)
    generalize hR : B.fmod 16030 = Rr at *
    generalize hM : (B * (Rr + 1902 * c1)).fmod 2305843009213693907 = M
    have m0 : 0 ≤ M ∧ M < 2305843009213693907 := by rw [← hM]; exact fmod_nn _ (by decide)
    refine ⟨(M.fdiv 167).fmod u, [.int 0, .int b, .int c1], ?_, (fmod_nn _ hu).1, (fmod_nn _ hu).2, _, _, _, rfl, by omega, hb, hb', q0, by omega⟩
    refine fun_ret (ρ' := [.pin (.lst [.int 0, .int b, .int c1]), .val (.int u), .un, .val (.int p), .val (.int M)]) rfl ?_
    unfold Mi.M__law_take
    have s1 : Sm 117994 := sm_le (by omega) (by omega)
    have s2 : Sm c1 := sm_le q0 (by omega)
    have s3 : Sm (117994 * c1) := sm_le (by omega) (by omega)
    have s4 : Sm 1902 := sm_le (by omega) (by omega)
    have s5 : Sm B := sm_le b10 (by omega)
    have s6 : Sm (Rr + 1902 * c1) := sm_le (by omega) (by omega)
    have s7 : Sd 167 := ⟨by omega, pow_big (a := 10) (by omega) (by decide)⟩
    have pw : opPow (.int E) (.int 3) = some (.int (E ^ 3)) := opPow_ok (k := 3) e0 e1 (by omega)
    refine (seq_nxt (ρ' := [.pin (.lst [.int 0, .int b, .int c]), .val (.int u), .un, .un, .un]) ?_).trans ((seq_nxt (ρ' := [.pin (.lst [.int 0, .int b, .int c1]), .val (.int u), .un, .un, .un]) ?_).trans ((seq_nxt (ρ' := [.pin (.lst [.int 0, .int b, .int c1]), .val (.int u), .un, .val (.int p), .un]) ?_).trans
      ((seq_nxt (ρ' := [.pin (.lst [.int 0, .int b, .int c1]), .val (.int u), .un, .val (.int p), .val (.int B)]) ?_).trans ((seq_nxt (ρ' := [.pin (.lst [.int 0, .int b, .int c1]), .val (.int u), .un, .val (.int p), .val (.int M)]) ?_).trans ?_))))
    · simp [ctIxL, opGt, asBl]
    · simp [ctIxL, opAdd, hc1]
    · simp [ctIxL, opMod_ok, fInt, size_le, Ct.toD, hp, kd]
    · simp [ctIxL, opMod_ok, fInt, opAdd, opMul_ok, s1, s2, s3, hE, pw, mVar, kd, hB, show p ≠ 0 by omega]
    · simp [ctIxL, opMod_ok, fInt, opAdd, opMul_ok, s4, s2, s5, s6, mVar, kd, hR, hM]
    · simp [ctIxL, opMod_ok, fInt, opFdiv_ok s7, mVar, kd, hd.1]
end DF
namespace DF
open PySem PySem.Spec L2 Evl
@[simp] theorem a_mCallM (F : ME) (i : Nat) (ma : MA) (ρ : Env) : mCallM F i ma ρ = (lft (ctOf ρ i)).bind fun _ => (ma ρ).bind fun x => (lft (ctOf x.2 i)).bind fun c => (lft (okR (F (.pin c :: x.1.map .val)))).bind fun y => match y.2 with
  | .pin c' :: _ => .ok (y.1, setCt x.2 i c')
  | _ => .bad := by unfold mCallM; rfl
@[simp] theorem a_mApp (i : Nat) (me : ME) (ρ : Env) : mApp i me ρ = (lft (ctL ρ i)).bind fun _ => (me ρ).bind fun y => (lft (ctL y.2 i)).bind fun ds => if ds.length < sizeLine then .ok (.nxt (setCt y.2 i (.lst (ds ++ [y.1])))) else .bad := rfl
@[simp] theorem a_mExt (i : Nat) (me : ME) (ρ : Env) : mExt i me ρ = (lft (ctL ρ i)).bind fun _ => (me ρ).bind fun y => (lft (match y.1 with | .lst es => some es | _ => none)).bind fun es => (lft (ctL y.2 i)).bind fun ds =>
  if ds.length + es.length ≤ sizeLine then .ok (.nxt (setCt y.2 i (.lst (ds ++ es)))) else .bad := rfl
@[simp] theorem a_mPop (i : Nat) (me : ME) (ρ : Env) : mPop i me ρ = (lft (ctL ρ i)).bind fun _ => (me ρ).bind fun y => (lft (match y.1 with | .int k => some k | _ => none)).bind fun k => (lft (ctL y.2 i)).bind fun ds =>
  @ite _ (0 ≤ k ∧ k < 4000000000000000000) (Classical.propDecidable _) ((lft (ds[k.toNat]?)).bind fun d => .ok (d, setCt y.2 i (.lst (ds.eraseIdx k.toNat)))) .bad := rfl
@[simp] theorem a_mDPut (i : Nat) (mv mk : ME) (ρ : Env) : mDPut i mv mk ρ = (mv ρ).bind fun x => (lft (ctD x.2 i)).bind fun _ => (mk x.2).bind fun y => (lft (asStr y.1)).bind fun s => (lft (ctD y.2 i)).bind fun kvs =>
  if kvs.length < sizeLine then .ok (.nxt (setCt y.2 i (.dct (putD kvs s x.1)))) else .bad := rfl
theorem sd_small {u : Int} (h0 : 0 < u) (h : u < 2 ^ 200) : Sd u := ⟨by omega, pow_big (a := 200) (by omega) (by decide)⟩
theorem atI_nat {α : Type} {ds : List α} {r : Int} (h0 : 0 ≤ r) (h : r < ds.length) : ∃ d, L2.atI ds r = some d ∧ ds[r.toNat]? = some d := by
  have hl : r.toNat < ds.length := by omega
  refine ⟨ds[r.toNat], ?_, List.getElem?_eq_getElem hl⟩
  unfold L2.atI L2.ixN
  rw [if_pos h0, if_pos h]
  exact List.getElem?_eq_getElem hl
theorem rng1_ok {j : Int} (h0 : 0 ≤ j) (h : j < 1000000000000) : rng1 [.int j] = some (rngD 0 j.toNat) := by
  unfold rng1
  simp only
  rw [if_pos (by omega)]
theorem rng2_ok {i j : Int} (h0 : -1000000000000 ≤ i) (h : i < 1000000000000) (h2 : -1000000000000 ≤ j) (h3 : j < 1000000000000) : rng2 [.int i, .int j] = some (rngD i (j - i).toNat) := by
  unfold rng2
  simp only
  rw [if_pos (by omega)]
theorem it_rng1 {m : ME} {ρ ρ' : Env} {k : Nat} (h : m ρ = .ok (.int k, ρ')) (hk : k ≤ 1000000) : mIt rng1 (mCons m mNil) ρ = .ok (rngD 0 k, ρ') := by
  have e := rng1_ok (j := (k : Int)) (by omega) (by omega)
  unfold mIt mCons
  rw [h]
  simp only [bind_ok, a_mNil]
  rw [e]
  simp only [bind_ok, lft_some, Int.toNat_natCast]
theorem for_of {mi : MI} {g : MG} {mb : MS} {ρ ρ' ρ'' : Env} {ds : List D} (h : mi ρ = .ok (ds, ρ')) (e : forGo g mb ds ρ' = .ok (.nxt ρ'')) : mFor mi g mb ρ = .ok (.nxt ρ'') := by
  unfold mFor
  rw [h]
  exact e
end DF
namespace DF
open PySem PySem.Spec L2 Evl
/-! ### rows of a region -/
structure Row where
  i : Int
  j : Int
  q : Rat
def rowD (r : Row) : D := .tup [.int r.i, .int r.j, dQ r.q]
def pD (p : Int × Int) : D := .tup [.int p.1, .int p.2]
/-- the four regions' words, their least steps -/
def regName : Nat → Str
  | 0 => "inside" | 1 => "first" | 2 => "second" | _ => "none"
def regLow : Nat → Int × Int
  | 0 => (-1, -1) | 1 => (-1, 0) | 2 => (0, -1) | _ => (0, 0)
structure RowsOk (lo : Int × Int) (rows : List Row) : Prop where
  len : 0 < rows.length ∧ rows.length ≤ 12
  nd : (rows.map fun r => (r.i, r.j)).Nodup
  rng : ∀ r ∈ rows, (lo.1 ≤ r.i ∧ r.i ≤ 3) ∧ (lo.2 ≤ r.j ∧ r.j ≤ 3)
  cd : ∃ W : Int, 0 < W ∧ W ≤ 900000 ∧ (∀ r ∈ rows, ∃ w : Int, 0 < w ∧ w ≤ W ∧ r.q = Rat.divInt w W)
  one : qsum (rows.map (·.q)) = 1
theorem divInt_add_same {a b W : Int} (hW : W ≠ 0) : Rat.divInt a W + Rat.divInt b W = Rat.divInt (a + b) W := by
  rw [Rat.divInt_add_divInt _ _ hW hW, Rat.divInt_eq_divInt_iff (by simp [hW]) hW]
  grind
theorem divInt_qb {a W : Int} {k : Nat} (hW : W ≠ 0) (ha : a.natAbs < 2 ^ k) (hw : W.natAbs < 2 ^ k) : QB k (Rat.divInt a W) := by
  refine ⟨?_, ?_⟩
  · rw [Rat.num_divInt]
    refine Nat.lt_of_le_of_lt ?_ ha
    rw [Int.natAbs_ediv_of_dvd ?_]
    · rw [Int.natAbs_mul]
      refine Nat.le_trans (Nat.div_le_self _ _) ?_
      have : W.sign.natAbs = 1 := Int.natAbs_sign_of_ne_zero hW
      rw [this, Nat.one_mul]
      exact Nat.le_refl _
    · exact Int.dvd_trans (Int.gcd_dvd_right _ _) (Int.dvd_mul_left _ _)
  · rw [Rat.den_divInt, if_neg hW]
    exact Nat.lt_of_le_of_lt (Nat.div_le_self _ _) hw
theorem qsum_divInt {W : Int} (hW : W ≠ 0) (ws : List Int) : qsum (ws.map fun w => Rat.divInt w W) = Rat.divInt ws.sum W := by
  have key : ∀ (ws : List Int) (a : Int), (ws.map fun w => Rat.divInt w W).foldl (· + ·) (Rat.divInt a W) = Rat.divInt (a + ws.sum) W := by
    intro ws
    induction ws with
    | nil => intro a; simp
    | cons w ws ih => intro a; simp only [List.map_cons, List.foldl_cons, divInt_add_same hW, ih, List.sum_cons, Int.add_assoc]
  have := key ws 0
  rw [Rat.zero_divInt, Int.zero_add] at this
  exact this
def pairsL (l0 l1 : Int) (m : Nat) (n : Nat) : List (Int × Int) := (List.range n).flatMap fun a => (List.range m).map fun b => (l0 + (a : Nat), l1 + (b : Nat))
theorem pairsL_succ (l0 l1 : Int) (m n : Nat) : pairsL l0 l1 m (n + 1) = pairsL l0 l1 m n ++ (List.range m).map fun b => (l0 + (n : Nat), l1 + (b : Nat)) := by
  unfold pairsL
  rw [List.range_succ, List.flatMap_append]
  simp
theorem pairsL_len (l0 l1 : Int) (m n : Nat) : (pairsL l0 l1 m n).length = n * m := by
  induction n with
  | zero => simp [pairsL]
  | succ n ih => rw [pairsL_succ, List.length_append, ih]; simp [Nat.succ_mul]
theorem pairsL_mem {l0 l1 : Int} {m n : Nat} {p : Int × Int} (h : p ∈ pairsL l0 l1 m n) : (l0 ≤ p.1 ∧ p.1 < l0 + n) ∧ (l1 ≤ p.2 ∧ p.2 < l1 + m) := by
  unfold pairsL at h
  obtain ⟨a, ha, h⟩ := List.mem_flatMap.mp h
  obtain ⟨b, hb, rfl⟩ := List.mem_map.mp h
  have := List.mem_range.mp ha
  have := List.mem_range.mp hb
  simp only
  omega
theorem nodup_map_inj {α β : Type} {f : α → β} : ∀ {l : List α}, (∀ a ∈ l, ∀ b ∈ l, f a = f b → a = b) → l.Nodup → (l.map f).Nodup
  | [], _, _ => List.nodup_nil
  | a :: l, h, nd => by
    rw [List.map_cons, List.nodup_cons]
    obtain ⟨n1, n2⟩ := List.nodup_cons.mp nd
    refine ⟨fun z => ?_, nodup_map_inj (fun x hx y hy => h x (List.mem_cons_of_mem _ hx) y (List.mem_cons_of_mem _ hy)) n2⟩
    obtain ⟨b, hb, e⟩ := List.mem_map.mp z
    have := h b (List.mem_cons_of_mem _ hb) a (List.mem_cons_self ..) e
    exact n1 (by rw [← this]; exact hb)
theorem pairsL_nd (l0 l1 : Int) (m n : Nat) : (pairsL l0 l1 m n).Nodup := by
  induction n with
  | zero => simp [pairsL]
  | succ n ih =>
    rw [pairsL_succ, List.nodup_append]
    refine ⟨ih, nodup_map_inj (fun a _ b _ e => ?_) List.nodup_range, fun p hp q hq e => ?_⟩
    · have := (Prod.mk.inj e).2; omega
    · subst e
      have h1 := pairsL_mem hp
      obtain ⟨b, hb, rfl⟩ := List.mem_map.mp hq
      simp only at h1
      omega
theorem it_rng2 {m1 m2 : ME} {ρ ρ' ρ'' : Env} {i j : Int} (h1 : m1 ρ = .ok (.int i, ρ')) (h2 : m2 ρ' = .ok (.int j, ρ'')) (hi : -1000 ≤ i) (hj : j ≤ 1000) (hij : i ≤ 1000) (hji : -1000 ≤ j) : mIt rng2 (mCons m1 (mCons m2 mNil)) ρ = .ok (rngD i (j - i).toNat, ρ'') := by
  have e := rng2_ok (i := i) (j := j) (by omega) (by omega) (by omega) (by omega)
  unfold mIt mCons
  rw [h1]
  simp only [bind_ok]
  rw [h2]
  simp only [bind_ok, a_mNil]
  rw [e]
  simp only [bind_ok, lft_some]
theorem rngD_get {i : Nat} {d : D} {l : Int} {n : Nat} (h : (rngD l n)[i]? = some d) : i < n ∧ d = .int (l + (i : Nat)) := by
  unfold rngD at h
  rw [List.getElem?_map] at h
  obtain ⟨k, h1, rfl⟩ := Option.map_eq_some_iff.mp h
  obtain ⟨h2, h3⟩ := List.getElem?_eq_some_iff.mp h1
  simp at h2 h3
  subst h3
  exact ⟨h2, rfl⟩
/-- the pool -/
theorem pool_ok {pot : List D} {reg : Str} {lo : Int × Int} {most : Nat} {lean : Int} (hlo : -1 ≤ lo.1 ∧ lo.1 ≤ 0 ∧ -1 ≤ lo.2 ∧ lo.2 ≤ 0) (hm : 1 ≤ most ∧ most ≤ 3) :
    ∃ s, isPl s = true ∧ mFor (mIt rng2 (mCons (mBin opIx (mVar 4) (mC (.int (0)))) (mCons (mBin opAdd (mVar 2) (mC (.int (1)))) (mNil)))) (gSet 6) (mExt 5 (mOfL (mLc [11] (mIt rng2 (mCons (mBin opIx (mVar 4) (mC (.int (1)))) (mCons (mBin opAdd (mVar 2) (mC (.int (1)))) (mNil)))) (gSet 11) (mYes) (mTup (mCons (mVar 6) (mCons (mVar 11) (mNil)))))))
      [.pin (.lst pot), .val (.str reg), .val (.int most), .val (.int lean), .val (pD lo), .own (.lst []), .un, .un, .un, .un, .un, .un] =
    .ok (.nxt [.pin (.lst pot), .val (.str reg), .val (.int most), .val (.int lean), .val (pD lo), .own (.lst ((pairsL lo.1 lo.2 (most + 1 - lo.2).toNat (most + 1 - lo.1).toNat).map pD)), s, .un, .un, .un, .un, .un]) := by
  obtain ⟨ρ', e, s, hs, rfl⟩ := forGo_inv (g := gSet 6) (mb := mExt 5 (mOfL (mLc [11] (mIt rng2 (mCons (mBin opIx (mVar 4) (mC (.int (1)))) (mCons (mBin opAdd (mVar 2) (mC (.int (1)))) (mNil)))) (gSet 11) (mYes) (mTup (mCons (mVar 6) (mCons (mVar 11) (mNil))))))) (ds := rngD lo.1 (most + 1 - lo.1).toNat)
    (fun i ρ => ∃ s, isPl s = true ∧ ρ = [.pin (.lst pot), .val (.str reg), .val (.int most), .val (.int lean), .val (pD lo), .own (.lst ((pairsL lo.1 lo.2 (most + 1 - lo.2).toNat i).map pD)), s, .un, .un, .un, .un, .un])
    [.pin (.lst pot), .val (.str reg), .val (.int most), .val (.int lean), .val (pD lo), .own (.lst []), .un, .un, .un, .un, .un, .un] ⟨.un, rfl, rfl⟩ (fun i d ρ hd hI => by
      obtain ⟨s, hs, rfl⟩ := hI
      obtain ⟨hi, rfl⟩ := rngD_get hd
      refine ⟨[.pin (.lst pot), .val (.str reg), .val (.int most), .val (.int lean), .val (pD lo), .own (.lst ((pairsL lo.1 lo.2 (most + 1 - lo.2).toNat i).map pD)), .val (.int (lo.1 + (i : Nat))), .un, .un, .un, .un, .un], ?_, _, ?_, .val (.int (lo.1 + (i : Nat))), rfl, rfl⟩
      · unfold gSet
        rw [if_pos (by cases s <;> simp [kd, isPl] at hs ⊢)]
        rfl
      · have hc : mLc [11] (mIt rng2 (mCons (mBin opIx (mVar 4) (mC (.int (1)))) (mCons (mBin opAdd (mVar 2) (mC (.int (1)))) (mNil)))) (gSet 11) (mYes) (mTup (mCons (mVar 6) (mCons (mVar 11) (mNil))))
            [.pin (.lst pot), .val (.str reg), .val (.int most), .val (.int lean), .val (pD lo), .own (.lst ((pairsL lo.1 lo.2 (most + 1 - lo.2).toNat i).map pD)), .val (.int (lo.1 + (i : Nat))), .un, .un, .un, .un, .un] =
            .ok (.lst (((List.range (most + 1 - lo.2).toNat).map fun b => (lo.1 + (i : Nat), lo.2 + (b : Nat))).map pD), [.pin (.lst pot), .val (.str reg), .val (.int most), .val (.int lean), .val (pD lo), .own (.lst ((pairsL lo.1 lo.2 (most + 1 - lo.2).toNat i).map pD)), .val (.int (lo.1 + (i : Nat))), .un, .un, .un, .un, .un]) := by
          rw [a_mLc, it_rng2 (i := lo.2) (j := most + 1) rfl rfl (by omega) (by omega) (by omega) (by omega)]
          simp only [bind_ok]
          rw [if_pos (by rfl)]
          have hw : ∀ (a b c d e f g : Slot), wipeE [11] [a, b, c, d, e, f, g, .un, .un, .un, .un, .un] = [a, b, c, d, e, f, g, .un, .un, .un, .un, .un] := fun _ _ _ _ _ _ _ => rfl
          let fr : Slot → Env := fun z => [.pin (.lst pot), .val (.str reg), .val (.int most), .val (.int lean), .val (pD lo), .own (.lst ((pairsL lo.1 lo.2 (most + 1 - lo.2).toNat i).map pD)), .val (.int (lo.1 + (i : Nat))), .un, .un, .un, .un, z]
          rw [hw, lcGo_map (fun x => .tup [.int (lo.1 + (i : Nat)), x]) _ (by simp [rngD]; omega) (fun x hx => ⟨fr (.val x), rfl, fr (.val x), rfl, fr (.val x), by simp [fr, mVar, size_le], rfl⟩)]
          simp only [bind_ok, rngD, List.map_map]
          rfl
        rw [a_mExt, a_mOfL, hc]
        have hle : ((pairsL lo.1 lo.2 (most + 1 - lo.2).toNat i).map pD).length + (((List.range (most + 1 - lo.2).toNat).map fun b => (lo.1 + (i : Nat), lo.2 + (b : Nat))).map pD).length ≤ sizeLine := by
          refine size_le ?_
          simp only [List.length_map, pairsL_len, List.length_range]
          have h1 : i * (most + 1 - lo.2).toNat ≤ 5 * 5 := Nat.mul_le_mul (by omega) (by omega)
          omega
        simp only [ctL, ctOf, List.getElem?_cons_succ, List.getElem?_cons_zero, lft_some, bind_ok, Ct.toD]
        rw [if_pos hle, pairsL_succ, List.map_append]
        rfl)
  have hlen : (rngD lo.1 (most + 1 - lo.1).toNat).length = (most + 1 - lo.1).toNat := by simp [rngD]
  rw [hlen] at e
  exact ⟨s, hs, for_of (it_rng2 (i := lo.1) (j := most + 1) rfl rfl (by omega) (by omega) (by omega) (by omega)) e⟩
end DF
namespace DF
open PySem PySem.Spec L2 Evl
abbrev lowM : ML := mDispD [("inside", mTup (mCons (mUn opNeg (mC (.int (1)))) (mCons (mUn opNeg (mC (.int (1)))) (mNil)))), ("first", mTup (mCons (mUn opNeg (mC (.int (1)))) (mCons (mC (.int (0))) (mNil)))), ("second", mTup (mCons (mC (.int (0))) (mCons (mUn opNeg (mC (.int (1)))) (mNil)))), ("none", mTup (mCons (mC (.int (0))) (mCons (mC (.int (0))) (mNil))))]
abbrev lowK : List (Str × D) := [("inside", pD (-1, -1)), ("first", pD (-1, 0)), ("second", pD (0, -1)), ("none", pD (0, 0))]
theorem low_fold : lowK.foldl (fun acc kv => putD acc kv.1 kv.2) [] = lowK := by rfl
theorem lowM_ok (ρ : Env) : lowM ρ = .ok (.dct lowK, ρ) := by
  have : (mKvs [("inside", mTup (mCons (mUn opNeg (mC (.int (1)))) (mCons (mUn opNeg (mC (.int (1)))) (mNil)))), ("first", mTup (mCons (mUn opNeg (mC (.int (1)))) (mCons (mC (.int (0))) (mNil)))), ("second", mTup (mCons (mC (.int (0))) (mCons (mUn opNeg (mC (.int (1)))) (mNil)))), ("none", mTup (mCons (mC (.int (0))) (mCons (mC (.int (0))) (mNil))))]) ρ = .ok (lowK, ρ) := by
    simp [opNeg, size_le, pD]
  unfold lowM
  rw [a_mDispD, this]
  simp only [bind_ok]
  rw [low_fold]
theorem low_get (k : Nat) (h : k < 4) : lowK.lookup (regName k) = some (pD (regLow k)) := by
  have : k = 0 ∨ k = 1 ∨ k = 2 ∨ k = 3 := by omega
  rcases this with rfl | rfl | rfl | rfl <;> rfl
theorem low_ok {ρ : Env} {i k : Nat} (hk : k < 4) (h : ρ[i]? = some (.val (.str (regName k)))) : mBin opIx (mOfL lowM) (mVar i) ρ = .ok (pD (regLow k), ρ) := by
  rw [a_mBin, a_mOfL, lowM_ok]
  simp only [bind_ok, Ct.toD]
  rw [a_mVar i h]
  simp only [bind_ok, opIx]
  rw [low_get k hk]
  rfl
theorem regLow_rng (k : Nat) : -1 ≤ (regLow k).1 ∧ (regLow k).1 ≤ 0 ∧ -1 ≤ (regLow k).2 ∧ (regLow k).2 ≤ 0 := by
  unfold regLow
  split <;> decide
theorem intsOf_map (ws : List Int) : intsOf (ws.map .int) = some ws := by
  induction ws with
  | nil => rfl
  | cons w ws ih => simp [intsOf, ih]
/-- the weights -/
theorem weigh_ok {n : Nat} {pot : List D} {reg : Str} {most : Nat} {lean : Int} {lo s5 s6 s8 : Slot} {st : List (Int × Int)} (h : PotOk n pot) (hn : n + st.length < 2 ^ 60) (hl : st.length ≤ 1000) (hlean : 0 ≤ lean ∧ lean ≤ 6) (hk : plainE [lo, s5, s6, s8] = true) :
    ∃ (ws : List Int) (pot' : List D), mLc [9] (mItems (mVar 7)) (gSet 9) (mYes) (mBin opAdd (mBin opAdd (mC (.int (1))) (mCallM Mi.m__law_take 0 (mCons (mC (.int (4))) (mNil)))) (mBin opMul (mVar 3) (mCallN fInt (mCons (mBin opLt (mBin opAdd (mBin opIx (mVar 9) (mC (.int (0)))) (mBin opIx (mVar 9) (mC (.int (1))))) (mC (.int (0)))) (mNil)))))
      [.pin (.lst pot), .val (.str reg), .val (.int most), .val (.int lean), lo, s5, s6, .val (.lst (st.map pD)), s8, .un, .un, .un] =
      .ok (.lst (ws.map .int), [.pin (.lst pot'), .val (.str reg), .val (.int most), .val (.int lean), lo, s5, s6, .val (.lst (st.map pD)), s8, .un, .un, .un]) ∧ ws.length = st.length ∧ (∀ w ∈ ws, 0 < w ∧ w ≤ 10) ∧ PotOk (n + st.length) pot' := by
  obtain ⟨ys, ρ', e, hlen, pot', ws, rfl, rfl, hws, hp⟩ := lcGo_inv (vs := [9]) (g := gSet 9) (me := mBin opAdd (mBin opAdd (mC (.int (1))) (mCallM Mi.m__law_take 0 (mCons (mC (.int (4))) (mNil)))) (mBin opMul (mVar 3) (mCallN fInt (mCons (mBin opLt (mBin opAdd (mBin opIx (mVar 9) (mC (.int (0)))) (mBin opIx (mVar 9) (mC (.int (1))))) (mC (.int (0)))) (mNil)))))
    (fun i acc ρ => ∃ (pot' : List D) (ws : List Int), acc = ws.map .int ∧ ρ = [.pin (.lst pot'), .val (.str reg), .val (.int most), .val (.int lean), lo, s5, s6, .val (.lst (st.map pD)), s8, .un, .un, .un] ∧ (∀ w ∈ ws, 0 < w ∧ w ≤ 10) ∧ PotOk (n + i) pot')
    (st.map pD) (by simp; omega) [.pin (.lst pot), .val (.str reg), .val (.int most), .val (.int lean), lo, s5, s6, .val (.lst (st.map pD)), s8, .un, .un, .un] ⟨pot, [], rfl, rfl, by simp, h⟩ (fun i d acc ρ hd ha hI => by
      obtain ⟨pot', ws, rfl, rfl, hws, hp⟩ := hI
      have hi : i < st.length := by have := (List.getElem?_eq_some_iff.mp hd).1; simpa using this
      rw [List.getElem?_map] at hd
      obtain ⟨p, _, rfl⟩ := Option.map_eq_some_iff.mp hd
      obtain ⟨r, pot2, e, r0, r1, p2⟩ := take_ok (u := 4) hp (by omega) (by omega) (sd_small (by omega) (by omega))
      refine ⟨[.pin (.lst pot'), .val (.str reg), .val (.int most), .val (.int lean), lo, s5, s6, .val (.lst (st.map pD)), s8, .val (pD p), .un, .un], rfl, .int (1 + r + lean * (if p.1 + p.2 < 0 then 1 else 0)),
        [.pin (.lst pot2), .val (.str reg), .val (.int most), .val (.int lean), lo, s5, s6, .val (.lst (st.map pD)), s8, .val (pD p), .un, .un], ?_, pot2, ws ++ [1 + r + lean * (if p.1 + p.2 < 0 then 1 else 0)], by simp, rfl, ?_, by rw [← Nat.add_assoc]; exact p2⟩
      · have s1 : Sm lean := sm_le (by omega) (by omega)
        have s2 : Sm (if p.1 + p.2 < 0 then 1 else 0) := sm_le (by split <;> omega) (by split <;> omega)
        simp [mVar, ctOf, setCt, e, opAdd, opLt, pD, ix0, ix1, fInt, opMul_ok s1 s2]
      · intro w hw
        rcases List.mem_append.mp hw with hw | hw
        · exact hws w hw
        · rw [List.mem_singleton.mp hw]
          split <;> omega)
  refine ⟨ws, pot', ?_, by simpa using hlen, hws, by simpa using hp⟩
  rw [a_mLc]
  simp only [a_mItems, mVar, List.getElem?_cons_succ, List.getElem?_cons_zero, bind_ok, itemsOf, lft_some]
  rw [if_pos (by rfl)]
  show (lcGo _ _ _ _ _ _ [.pin (.lst pot), .val (.str reg), .val (.int most), .val (.int lean), lo, s5, s6, .val (.lst (st.map pD)), s8, .un, .un, .un]).bind _ = _
  rw [e]
  rfl
theorem zipD_map (st : List (Int × Int)) (ws : List Int) : zipD (st.map pD) (ws.map .int) = (st.zip ws).map fun x => .tup [pD x.1, .int x.2] := by
  induction st generalizing ws with
  | nil => rfl
  | cons a st ih =>
    cases ws with
    | nil => rfl
    | cons w ws => simp [zipD, ih]
/-- the rows -/
theorem rowsL_ok {pot : List D} {s1 s2 s3 s4 s5 s6 : Slot} {st : List (Int × Int)} {ws : List Int} (hl : st.length ≤ 1000) (hW : 0 < ws.sum) (hW2 : ws.sum < 2 ^ 100) :
    mLc [9, 10] (mIt fZip (mCons (mVar 7) (mCons (mVar 8) (mNil)))) (gTupD 2 (gsCons (gSet 9) (gsCons (gSet 10) (gsNil)))) (mYes) (mTup (mCons (mBin opIx (mVar 9) (mC (.int (0)))) (mCons (mBin opIx (mVar 9) (mC (.int (1)))) (mCons (mCall Mi.m__law_frac (mCons (mVar 10) (mCons (mCallN fSum (mCons (mVar 8) (mNil))) (mNil)))) (mNil)))))
      [.pin (.lst pot), s1, s2, s3, s4, s5, s6, .val (.lst (st.map pD)), .val (.lst (ws.map .int)), .un, .un, .un] =
      .ok (.lst (((st.zip ws).map fun x => (⟨x.1.1, x.1.2, Rat.divInt x.2 ws.sum⟩ : Row)).map rowD), [.pin (.lst pot), s1, s2, s3, s4, s5, s6, .val (.lst (st.map pD)), .val (.lst (ws.map .int)), .un, .un, .un]) := by
  let fr : Slot → Slot → Env := fun a b => [.pin (.lst pot), s1, s2, s3, s4, s5, s6, .val (.lst (st.map pD)), .val (.lst (ws.map .int)), a, b, .un]
  rw [a_mLc]
  simp only [a_mIt, a_mCons, a_mNil, mVar, List.getElem?_cons_succ, List.getElem?_cons_zero, bind_ok, fZip, lft_some, zipD_map]
  rw [if_pos (by rfl)]
  have key := lcGo_map (vs := [9, 10]) (g := gTupD 2 (gsCons (gSet 9) (gsCons (gSet 10) (gsNil)))) (mt := mYes) (me := mTup (mCons (mBin opIx (mVar 9) (mC (.int (0)))) (mCons (mBin opIx (mVar 9) (mC (.int (1)))) (mCons (mCall Mi.m__law_frac (mCons (mVar 10) (mCons (mCallN fSum (mCons (mVar 8) (mNil))) (mNil)))) (mNil))))) (ρ := fr .un .un)
    (fun d => match d with
      | .tup [.tup [.int i, .int j], .int w] => rowD ⟨i, j, Rat.divInt w ws.sum⟩
      | _ => .non) ((st.zip ws).map fun x => .tup [pD x.1, .int x.2]) (by simp; omega) (fun d hd => by
      obtain ⟨x, _, rfl⟩ := List.mem_map.mp hd
      refine ⟨fr (.val (pD x.1)) (.val (.int x.2)), by cases s1 <;> cases s2 <;> rfl, _, rfl, fr (.val (pD x.1)) (.val (.int x.2)), ?_, rfl⟩
      have hd : Sd ws.sum := sd_small hW (by omega)
      simp [fr, mVar, pD, ix0, ix1, fSum, intsOf_map, m__law_frac_ok hd, size_le, rowD])
  show (lcGo _ _ _ _ _ _ (fr .un .un)).bind _ = _
  rw [key]
  simp only [bind_ok, List.map_map]
  rfl
def dP : D → Int × Int
  | .tup [.int i, .int j] => (i, j)
  | _ => (0, 0)
theorem pD_inj {p q : Int × Int} (h : pD p = pD q) : p = q := congrArg dP h
theorem sum_bound : ∀ {ws : List Int}, (∀ w ∈ ws, 0 < w ∧ w ≤ 10) → (ws.length : Int) ≤ ws.sum ∧ ws.sum ≤ 10 * ws.length
  | [], _ => by simp
  | w :: ws, h => by
    have h1 := h w (List.mem_cons_self ..)
    have h2 := sum_bound fun x hx => h x (List.mem_cons_of_mem _ hx)
    simp only [List.sum_cons, List.length_cons]
    omega
theorem le_sum : ∀ {ws : List Int} {w : Int}, (∀ w ∈ ws, 0 < w ∧ w ≤ 10) → w ∈ ws → w ≤ ws.sum
  | [], _, _, h => by cases h
  | x :: ws, w, h, hw => by
    have h1 := h x (List.mem_cons_self ..)
    have h2 := sum_bound fun x hx => h x (List.mem_cons_of_mem _ hx)
    simp only [List.sum_cons]
    rcases List.mem_cons.mp hw with e | e
    · omega
    · have := le_sum (fun x hx => h x (List.mem_cons_of_mem _ hx)) e
      omega
theorem zip_fst {α β : Type} : ∀ {l : List α} {r : List β}, l.length ≤ r.length → (l.zip r).map (·.1) = l
  | [], _, _ => by simp
  | a :: l, [], h => by simp at h
  | a :: l, b :: r, h => by simp [zip_fst (l := l) (r := r) (by simpa using h)]
theorem zip_snd {α β : Type} : ∀ {l : List α} {r : List β}, r.length ≤ l.length → (l.zip r).map (·.2) = r
  | [], [], _ => by simp
  | [], b :: r, h => by simp at h
  | a :: l, [], h => by simp
  | a :: l, b :: r, h => by simp [zip_snd (l := l) (r := r) (by simpa using h)]
/-- drawn rows: few, with small numbers -/
structure RowsD (lo : Int × Int) (rows : List Row) : Prop extends RowsOk lo rows where
  few : rows.length ≤ 5
  small : ∃ W : Int, 0 < W ∧ W ≤ 60 ∧ (∀ r ∈ rows, ∃ w : Int, 0 < w ∧ w ≤ W ∧ r.q = Rat.divInt w W)
end DF
namespace DF
open PySem PySem.Spec L2 Evl
/-! ### equality of plain data -/
mutual
def nbl : PyData → Bool
  | .bool _ => false
  | .dict _ => false
  | .list xs => nbls xs
  | .tuple xs => nbls xs
  | _ => true
def nbls : List PyData → Bool
  | [] => true
  | x :: xs => nbl x && nbls xs
end
mutual
theorem eqv_iff : ∀ (p q : PyData), nbl p = true → nbl q = true → (PyData.eqv p q = true ↔ p = q)
  | .none, q, _, h => by cases q <;> simp [PyData.eqv, nbl] at h ⊢
  | .int i, q, _, h => by cases q <;> simp [PyData.eqv, nbl] at h ⊢
  | .str i, q, _, h => by cases q <;> simp [PyData.eqv, nbl] at h ⊢
  | .list xs, q, h1, h => by
    cases q <;> simp [PyData.eqv, nbl] at h ⊢
    simp only [nbl] at h1
    exact eqvs_iff _ _ h1 h
  | .tuple xs, q, h1, h => by
    cases q <;> simp [PyData.eqv, nbl] at h ⊢
    simp only [nbl] at h1
    exact eqvs_iff _ _ h1 h
  | .bool _, _, h, _ => by simp [nbl] at h
  | .dict _, _, h, _ => by simp [nbl] at h
theorem eqvs_iff : ∀ (ps qs : List PyData), nbls ps = true → nbls qs = true → (PyData.eqvAll ps qs = true ↔ ps = qs)
  | [], qs, _, h => by cases qs <;> simp [PyData.eqvAll]
  | p :: ps, qs, h1, h => by
    cases qs with
    | nil => simp [PyData.eqvAll]
    | cons q qs =>
      simp only [nbls, Bool.and_eq_true] at h1 h
      simp only [PyData.eqvAll, Bool.and_eq_true, List.cons.injEq]
      rw [eqv_iff p q h1.1 h.1, eqvs_iff ps qs h1.2 h.2]
end
mutual
theorem toP_inj : ∀ (a b : D) (p : PyData), toP a = some p → toP b = some p → a = b
  | .non, b, p, h, k => by simp only [toP, Option.some.injEq] at h; subst h; cases b <;> simp [toP] at k ⊢
  | .bl x, b, p, h, k => by simp only [toP, Option.some.injEq] at h; subst h; cases b <;> simp [toP] at k ⊢; exact k.symm
  | .int x, b, p, h, k => by simp only [toP, Option.some.injEq] at h; subst h; cases b <;> simp [toP] at k ⊢; exact k.symm
  | .str x, b, p, h, k => by simp only [toP, Option.some.injEq] at h; subst h; cases b <;> simp [toP] at k ⊢; exact k.symm
  | .tup xs, b, p, h, k => by
    simp only [toP] at h
    obtain ⟨ps, e, rfl⟩ := Option.map_eq_some_iff.mp h
    cases b <;> simp [toP] at k ⊢
    exact toPs_inj _ _ _ e k
  | .lst xs, b, p, h, k => by
    simp only [toP] at h
    obtain ⟨ps, e, rfl⟩ := Option.map_eq_some_iff.mp h
    cases b <;> simp [toP] at k ⊢
    exact toPs_inj _ _ _ e k
  | .dct _, b, p, h, k => by simp [toP] at h
  | .obj _ _, b, p, h, k => by simp [toP] at h
  | .ty _, b, p, h, k => by simp [toP] at h
  | .cls _, b, p, h, k => by simp [toP] at h
  | .scr _, b, p, h, k => by simp [toP] at h
theorem toPs_inj : ∀ (a b : List D) (p : List PyData), toPs a = some p → toPs b = some p → a = b
  | [], b, p, h, k => by
    simp only [toPs, Option.some.injEq] at h; subst h
    cases b with
    | nil => rfl
    | cons d ds => simp only [toPs] at k; split at k <;> simp at k
  | d :: ds, b, p, h, k => by
    simp only [toPs] at h
    split at h
    · rename_i q qs e1 e2
      cases h
      cases b with
      | nil => simp [toPs] at k
      | cons d' ds' =>
        simp only [toPs] at k
        split at k
        · rename_i q' qs' e3 e4
          cases k
          rw [toP_inj d d' q e1 e3, toPs_inj ds ds' qs e2 e4]
        · cases k
    · cases h
end
structure Good (n : Nat) (d : D) : Prop where
  ex : ∃ p, toP d = some p ∧ p.canLay0 = true ∧ p.depth ≤ n ∧ nbl p = true
structure Goods (n : Nat) (ds : List D) : Prop where
  ex : ∃ ps, toPs ds = some ps ∧ PyData.canLayAll0 ps = true ∧ PyData.depthAll ps ≤ n ∧ nbls ps = true
theorem Goods.of {n : Nat} : ∀ {ds : List D}, (∀ d ∈ ds, Good n d) → Goods n ds
  | [], _ => ⟨[], rfl, rfl, Nat.zero_le _, rfl⟩
  | d :: ds, h => by
    obtain ⟨p, e1, e2, e3, e4⟩ := (h d (List.mem_cons_self ..)).ex
    obtain ⟨ps, f1, f2, f3, f4⟩ := (Goods.of fun x hx => h x (List.mem_cons_of_mem _ hx)).ex
    refine ⟨p :: ps, by simp only [toPs, e1, f1], by simp only [PyData.canLayAll0, e2, f2]; rfl, by simp only [PyData.depthAll]; omega, by simp only [nbls, e4, f4]; rfl⟩
theorem Good.non {n : Nat} : Good n .non := ⟨.none, rfl, rfl, Nat.zero_le _, rfl⟩
theorem Good.int {n : Nat} (i : Int) : Good n (.int i) := ⟨.int i, rfl, rfl, Nat.zero_le _, rfl⟩
theorem Good.str {n : Nat} {x : Str} (h : PyData.strOk x = true) : Good n (.str x) := ⟨.str x, rfl, h, Nat.zero_le _, rfl⟩
theorem Good.tup {n : Nat} {ds : List D} (h : ∀ d ∈ ds, Good n d) : Good (n + 1) (.tup ds) := by
  obtain ⟨ps, f1, f2, f3, f4⟩ := (Goods.of h).ex
  exact ⟨.tuple ps, by simp only [toP, f1]; rfl, f2, by simp only [PyData.depth]; omega, f4⟩
theorem Good.lst {n : Nat} {ds : List D} (h : ∀ d ∈ ds, Good n d) : Good (n + 1) (.lst ds) := by
  obtain ⟨ps, f1, f2, f3, f4⟩ := (Goods.of h).ex
  exact ⟨.list ps, by simp only [toP, f1]; rfl, f2, by simp only [PyData.depth]; omega, f4⟩
theorem eqD_same {n : Nat} {a : D} (hn : n ≤ 64) (ha : Good n a) : eqD a a = some true := by
  obtain ⟨p, e1, e2, e3, e4⟩ := ha.ex
  have h1 : SeqAt.shaped p = true := by unfold SeqAt.shaped; rw [e2, decide_eq_true (by omega)]; rfl
  unfold eqD
  split
  · simp
  · rw [e1]
    simp only
    rw [if_pos ⟨h1, h1⟩, (eqv_iff p p e4 e4).mpr rfl]
theorem eqD_diff {n : Nat} {a b : D} (hn : n ≤ 64) (ha : Good n a) (hb : Good n b) (h : a ≠ b) : eqD a b = some false := by
  obtain ⟨p, e1, e2, e3, e4⟩ := ha.ex
  obtain ⟨q, f1, f2, f3, f4⟩ := hb.ex
  have h1 : SeqAt.shaped p = true := by unfold SeqAt.shaped; rw [e2, decide_eq_true (by omega)]; rfl
  have h2 : SeqAt.shaped q = true := by unfold SeqAt.shaped; rw [f2, decide_eq_true (by omega)]; rfl
  have ne : p ≠ q := fun z => h (toP_inj a b p e1 (by rw [f1, z]))
  have h3 : PyData.eqv p q = false := by
    cases e : PyData.eqv p q with
    | false => rfl
    | true => exact absurd ((eqv_iff p q e4 f4).mp e) ne
  unfold eqD
  split
  · rename_i x y
    congr 1
    exact decide_eq_false (fun z => h (by rw [z]))
  · rw [e1, f1]
    simp only
    rw [if_pos ⟨h1, h2⟩, h3]
end DF
namespace DF
open PySem PySem.Spec L2 Evl TL
/-! ### numbers as texts -/
def numS (n : Nat) : Str := Str.ofString (toString ((n : Nat) : Int))
theorem tl_numS (n : Nat) : tl (numS n) = numL n := tl_num n
theorem numL_head {n : Nat} (h : 0 < n) : ∃ c r, numL n = c :: r ∧ 48 < c ∧ c ≤ 57 := by
  induction n using Nat.strongRecOn with
  | _ n ih =>
    by_cases h1 : n < 10
    · exact ⟨48 + n, [], numL_lt h1, by omega, by omega⟩
    · obtain ⟨c, r, e, h2, h3⟩ := ih (n / 10) (by omega) (by omega)
      exact ⟨c, r ++ [48 + n % 10], by rw [numL_step (by omega), e]; rfl, h2, h3⟩
theorem numS_len {n : Nat} (h : n < 10 ^ 9) : 0 < (numS n).length ∧ (numS n).length ≤ 9 := by
  rw [len_tl, tl_numS]
  exact ⟨List.length_pos_iff.mpr (numL_ne n), numL_len (by decide) h⟩
theorem numS_int {n : Nat} (h : n < 10 ^ 9) : fInt [.str (numS n)] = some (.int n) := by
  have hl := numS_len h
  have h2 : (numL n).length ≤ 9 := by have := hl.2; rw [len_tl, tl_numS] at this; exact this
  simp only [fInt]
  rw [if_pos (by omega)]
  have := int_num (n := n) (by omega)
  unfold numS
  rw [this]
  rfl
theorem fig_in {c : Nat} (h : 48 ≤ c ∧ c ≤ 57) : opIn (.str ⟨#[c]⟩) (.str "0123456789") = some (.bl true) := by
  have : c = 48 ∨ c = 49 ∨ c = 50 ∨ c = 51 ∨ c = 52 ∨ c = 53 ∨ c = 54 ∨ c = 55 ∨ c = 56 ∨ c = 57 := by omega
  rcases this with rfl | rfl | rfl | rfl | rfl | rfl | rfl | rfl | rfl | rfl <;> rfl
theorem bls_true (n : Nat) : blsOf (List.replicate n (.bl true)) = some (List.replicate n true) := by
  induction n with
  | zero => rfl
  | succ n ih => simp [List.replicate_succ, blsOf, ih]
theorem all_true (n : Nat) : fAll [.lst (List.replicate n (.bl true))] = some (.bl true) := by
  simp [fAll, bls_true]
theorem sign1 (c : Nat) : (⟨#[c]⟩ : Str) = ⟨[c].toArray⟩ := rfl
theorem cut_first {z : Str} {c : Nat} {r : List Nat} (h : tl z = c :: r) : cutS z none (some 1) = ⟨#[c]⟩ := by
  refine ext_tl ?_
  unfold cutS
  have hl : z.length = r.length + 1 := by rw [len_tl, h]; rfl
  have e1 : HT.sIx z.length 0 none = 0 := rfl
  have e2 : HT.sIx z.length z.length (some 1) = 1 := by
    have := HT.sIx_nat z.length z.length 1
    rw [show ((1 : Nat) : Int) = 1 from rfl] at this
    rw [this]; omega
  rw [e1, e2]
  show (List.take _ (List.drop 0 (tl z))) = [c]
  rw [h]
  rfl
theorem str_ne {c d : Nat} (h : c ≠ d) : (⟨#[c]⟩ : Str) ≠ ⟨#[d]⟩ := fun z => by
  have := congrArg tl z
  exact h (List.cons.inj this).1
theorem sg_minus : (Str.ofString "-") = ⟨#[45]⟩ := by decide +kernel
theorem sg_zero : (Str.ofString "0") = ⟨#[48]⟩ := by decide +kernel
theorem atI_zero {α : Type} (c : α) (r : List α) : L2.atI (c :: r) 0 = some c := by
  unfold L2.atI L2.ixN
  rw [if_pos (by decide), if_pos (by simp only [List.length_cons]; omega)]
  rfl
theorem whole_ok {n : Nat} (h : n < 10 ^ 9) : Mi.m_whole_in [.val (.str (numS n))] = .ok (.int n, [.val (.str (numS n))]) := by
  obtain ⟨hl1, hl2⟩ := numS_len h
  obtain ⟨c, r, hc⟩ : ∃ c r, numL n = c :: r := by
    cases e : numL n with
    | nil => exact absurd e (numL_ne n)
    | cons c r => exact ⟨c, r, rfl⟩
  have hd := numL_digits n
  have hcd : 48 ≤ c ∧ c ≤ 57 := hd c (by rw [hc]; exact List.mem_cons_self ..)
  have ht : tl (numS n) = c :: r := by rw [tl_numS, hc]
  have hsz : (numS n).length ≤ sizeLine := size_le (by omega)
  refine fun_ret (ρ' := [.val (.str (numS n)), .val (.str (numS n)), .un]) rfl ?_
  unfold Mi.M_whole_in
  refine (seq_nxt (ρ' := [.val (.str (numS n)), .val (.str (numS n)), .un]) ?_).trans ((seq_nxt (ρ' := [.val (.str (numS n)), .val (.str (numS n)), .un]) ?_).trans ?_)
  · have e1 : opSl (.str (numS n)) none (some 1) = some (.str ⟨#[c]⟩) := by
      simp only [opSl]
      rw [if_pos hsz, cut_first ht]
    have e2 : opEq (.str ⟨#[c]⟩) (.str (Str.ofString "-")) = some (.bl false) := by
      rw [sg_minus]
      simp only [opEq, eqD]
      rw [decide_eq_false (str_ne (by omega))]
      rfl
    simp [mVar, e1, e2, asBl, kd]
  · have e3 : fLen [.str (numS n)] = some (.int (numS n).length) := by simp only [fLen]; rw [if_pos hsz]
    have hm : mLc [2] (mItems (mVar 1)) (gSet 2) (mYes) (mBin opIn (mVar 2) (mC (.str "0123456789"))) [.val (.str (numS n)), .val (.str (numS n)), .un] = .ok (.lst (List.replicate (numS n).length (.bl true)), [.val (.str (numS n)), .val (.str (numS n)), .un]) := by
      rw [a_mLc]
      simp only [a_mItems, mVar, List.getElem?_cons_succ, List.getElem?_cons_zero, bind_ok, itemsOf, lft_some]
      rw [if_pos (by rfl)]
      show (lcGo _ _ _ _ _ _ [.val (.str (numS n)), .val (.str (numS n)), .un]).bind _ = _
      rw [lcGo_map (fun _ => .bl true) _ (by simp; rw [show (numS n).cps.size = (numS n).length from rfl]; omega) (fun d hd' => by
        obtain ⟨x, hx, rfl⟩ := List.mem_map.mp hd'
        have hx2 : x ∈ numL n := by rw [← tl_numS]; exact hx
        refine ⟨[.val (.str (numS n)), .val (.str (numS n)), .val (.str ⟨#[x]⟩)], rfl, _, rfl, [.val (.str (numS n)), .val (.str (numS n)), .val (.str ⟨#[x]⟩)], ?_, rfl⟩
        simp [mVar, fig_in (hd x hx2)])]
      simp only [bind_ok, List.map_map]
      congr 3
      rw [show ((fun _ => D.bl true) ∘ fun c => D.str ⟨#[c]⟩) = fun _ => D.bl true from rfl, List.map_const']
      rw [len_tl]
    simp only [a_mIfS, a_mOrT, a_mNotT, a_mTest, a_mChain, a_mC, a_mCallN, a_mCons, a_mNil, a_mOfL, mVar, List.getElem?_cons_succ, List.getElem?_cons_zero, bind_ok, lft_some, hm, e3, opLe, asBl, Ct.toD, all_true]
    have q1 : decide ((1 : Int) ≤ ((numS n).length : Int)) = true := decide_eq_true (by omega)
    have q2 : decide (((numS n).length : Int) ≤ 4000) = true := decide_eq_true (by omega)
    simp [-a_mLc, q1, q2, hm, Ct.toD, all_true, asBl]
  · have e4 : opIx (.str (numS n)) (.int 0) = some (.str ⟨#[c]⟩) := by
      simp only [opIx]
      rw [if_pos hsz]
      show (L2.atI (tl (numS n)) 0).map _ = _
      rw [ht, atI_zero]
      rfl
    have hi := numS_int h
    by_cases h0 : n = 0
    · subst h0
      have e5 : numS 0 = Str.ofString "0" := by decide +kernel
      have e6 : opNe (.str (numS 0)) (.str (Str.ofString "0")) = some (.bl false) := by
        rw [e5]; simp [opNe, eqD]
      simp [mVar, e4, opEq, eqD, asBl, e6, hi]
    · obtain ⟨c', r', e7, h8, h9⟩ := numL_head (n := n) (by omega)
      rw [hc] at e7
      cases e7
      have e8 : opEq (.str ⟨#[c]⟩) (.str (Str.ofString "0")) = some (.bl false) := by
        rw [sg_zero]
        simp only [opEq, eqD]
        rw [decide_eq_false (str_ne (by omega))]
        rfl
      simp [mVar, e4, e8, asBl, hi]
end DF
namespace DF
open PySem PySem.Spec L2 Evl TL
theorem opEq_int (a b : Int) : opEq (.int a) (.int b) = some (.bl (decide (a = b))) := by
  unfold opEq
  by_cases h : a = b
  · subst h
    rw [eqD_same (n := 1) (by decide) (Good.int a), decide_eq_true rfl]
    rfl
  · rw [eqD_diff (n := 1) (by decide) (Good.int a) (Good.int b) (fun z => h (D.int.inj z)), decide_eq_false h]
    rfl
theorem opNe_int (a b : Int) : opNe (.int a) (.int b) = some (.bl (!decide (a = b))) := by
  have := opEq_int a b
  unfold opEq at this
  unfold opNe
  cases h : eqD (.int a) (.int b) with
  | none => rw [h] at this; cases this
  | some c =>
    rw [h] at this
    simp only [Option.map_some, Option.some.injEq, D.bl.injEq] at this
    simp [this]
@[simp] theorem isi_int (i : Int) : fIsi [.int i, .ty "int"] = some (.bl true) := by simp [fIsi, isiOk, tyName]
@[simp] theorem isi_int_bool (i : Int) : fIsi [.int i, .ty "bool"] = some (.bl false) := by simp [fIsi, isiOk, tyName]
@[simp] theorem isi_tup (ds : List D) : fIsi [.tup ds, .ty "tuple"] = some (.bl true) := by simp [fIsi, isiOk, tyName]
@[simp] theorem isi_str (x : Str) : fIsi [.str x, .ty "str"] = some (.bl true) := by simp [fIsi, isiOk, tyName]
@[simp] theorem isi_int_tup (i : Int) : fIsi [.int i, .ty "tuple"] = some (.bl false) := by simp [fIsi, isiOk, tyName]
@[simp] theorem isi_str_tup (i : Str) : fIsi [.str i, .ty "tuple"] = some (.bl false) := by simp [fIsi, isiOk, tyName]
@[simp] theorem isi_str_bool (i : Str) : fIsi [.str i, .ty "bool"] = some (.bl false) := by simp [fIsi, isiOk, tyName]
@[simp] theorem isi_str_int (i : Str) : fIsi [.str i, .ty "int"] = some (.bl false) := by simp [fIsi, isiOk, tyName]
@[simp] theorem len_tup (ds : List D) : fLen [.tup ds] = some (.int ds.length) := rfl
@[simp] theorem len_lst (ds : List D) : fLen [.lst ds] = some (.int ds.length) := rfl
theorem is_whole_ok (i : Int) : Mi.m_is_whole [.val (.int i)] = .ok (.bl true, [.val (.int i)]) := by
  refine fun_ret (ρ' := [.val (.int i)]) rfl ?_
  unfold Mi.M_is_whole
  simp [asBl]
theorem is_ratio_ok (q : Rat) : Mi.m_is_ratio [.val (dQ q)] = .ok (.bl true, [.val (dQ q)]) := by
  have hm : mLc [1] (mItems (mVar 0)) (gSet 1) (mYes) (mCall Mi.m_is_whole (mCons (mVar 1) (mNil))) [.val (dQ q), .un] = .ok (.lst (List.replicate 2 (.bl true)), [.val (dQ q), .un]) := by
    rw [a_mLc]
    simp only [a_mItems, a_mVar0, bind_ok, dQ, itemsOf, lft_some]
    rw [if_pos (by rfl)]
    show (lcGo _ _ _ _ _ _ [.val (dQ q), .un]).bind _ = _
    rw [lcGo_map (fun _ => .bl true) _ (by simp) (fun d hd => by
      have : ∃ i : Int, d = .int i := by
        rcases List.mem_cons.mp hd with e | e
        · exact ⟨_, e⟩
        · rcases List.mem_cons.mp e with e | e
          · exact ⟨_, e⟩
          · cases e
      obtain ⟨i, rfl⟩ := this
      refine ⟨[.val (dQ q), .val (.int i)], rfl, _, rfl, [.val (dQ q), .val (.int i)], ?_, rfl⟩
      simp [mVar, is_whole_ok])]
    rfl
  have hg : Int.gcd q.num (q.den : Int) = 1 := q.reduced
  have hden : (1 : Int) ≤ (q.den : Int) := by have := q.den_pos; omega
  have h2 : opNe (.int 2) (.int 2) = some (.bl false) := by rw [opNe_int]; rfl
  have h3 : opEq (.int 1) (.int 1) = some (.bl true) := by rw [opEq_int]; rfl
  refine fun_ret (ρ' := [.val (dQ q), .un]) rfl ?_
  unfold Mi.M_is_ratio
  refine (seq_nxt (ρ' := [.val (dQ q), .un]) ?_).trans ?_
  · show mIfS _ _ _ [.val (dQ q), .un] = _
    simp only [a_mIfS, a_mOrT, a_mNotT, a_mTest, a_mBin, a_mC, a_mCallN, a_mCons, a_mNil, a_mOfL, a_mVar0, bind_ok, lft_some, hm]
    simp [dQ, asBl, h2, -a_mLc]
    rw [show ([.val (.tup [.int q.num, .int (q.den : Int)]), .un] : Env) = [.val (dQ q), .un] from rfl, hm]
    simp [Ct.toD, asBl]
    rfl
  · show mRet _ [.val (dQ q), .un] = _
    simp [dQ, ix1, ix0, opGe, asBl, hden, m_common_ok, hg, h3]
structure PQ (q : Rat) : Prop where
  pos : 0 < q.num
  num : q.num < 10 ^ 7
  den : q.den < 10 ^ 7
def fracS (q : Rat) : Str := if q.den = 1 then numS q.num.toNat else numS q.num.toNat ++ "/" ++ numS q.den
theorem str_ok {n : Nat} (h : n < 10 ^ 9) : fStr [.int (n : Int)] = some (.str (numS n)) := by
  simp only [fStr, Int.natAbs_natCast]
  rw [if_pos (log2_le (k := 1920) (Nat.lt_of_lt_of_le (show n < 2 ^ 30 by omega) (Nat.pow_le_pow_right (n := 2) (by decide) (by decide : 30 ≤ 1920))) (by decide))]
  rfl
theorem law_frac_text_ok {q : Rat} (h : PQ q) : Mi.m__law_frac_text [.val (dQ q)] = .ok (.str (fracS q), [.val (dQ q)]) := by
  have hn : (q.num.toNat : Int) = q.num := Int.toNat_of_nonneg (by have := h.pos; omega)
  have h1 : fStr [.int q.num] = some (.str (numS q.num.toNat)) := by
    have := str_ok (n := q.num.toNat) (by have := h.num; omega)
    rw [hn] at this
    exact this
  have h2 : fStr [.int (q.den : Int)] = some (.str (numS q.den)) := str_ok (by have := h.den; omega)
  have l1 := (numS_len (n := q.num.toNat) (by have := h.num; omega)).2
  have l2 := (numS_len (n := q.den) (by have := h.den; omega)).2
  refine fun_ret (ρ' := [.val (dQ q)]) rfl ?_
  unfold Mi.M__law_frac_text
  by_cases hd : q.den = 1
  · simp [dQ, ix0, ix1, opEq_int, asBl, fInt, h1, fracS, hd]
  · have e : opEq (.int (q.den : Int)) (.int 1) = some (.bl false) := by rw [opEq_int, decide_eq_false (by omega)]
    have a1 : opAdd (.str (numS q.num.toNat)) (.str (Str.ofString "/")) = some (.str (numS q.num.toNat ++ Str.ofString "/")) := by
      simp only [opAdd]
      rw [if_pos (size_le (by have : (Str.ofString "/").length = 1 := (by decide +kernel); omega))]
    have a2 : opAdd (.str (numS q.num.toNat ++ Str.ofString "/")) (.str (numS q.den)) = some (.str (numS q.num.toNat ++ Str.ofString "/" ++ numS q.den)) := by
      simp only [opAdd]
      rw [if_pos (size_le (by
        have : (numS q.num.toNat ++ Str.ofString "/").length = (numS q.num.toNat).length + 1 := by rw [len_tl, tl_append, List.length_append, ← len_tl, show (tl (Str.ofString "/")).length = 1 by decide +kernel]
        omega))]
    simp [dQ, ix0, ix1, e, asBl, fInt, h1, h2, fracS, hd, a1, a2]
/-! ### ratio_in -/
theorem sl_free (n : Nat) : (47 : Nat) ∉ tl (numS n) := by rw [tl_numS]; exact numL_free (by decide)
theorem tl_slash : tl (Str.ofString "/") = 47 :: [] := by decide +kernel
theorem split_slash {parts : List Str} (hne : parts ≠ []) (hp : ∀ p ∈ parts, 47 ∉ tl p) : Txt.split (Txt.join (Str.ofString "/") parts) (Str.ofString "/") = parts := split_join tl_slash (by decide +kernel) hne hp
theorem split_frac {q : Rat} : Txt.split (fracS q) (Str.ofString "/") = if q.den = 1 then [numS q.num.toNat] else [numS q.num.toNat, numS q.den] := by
  unfold fracS
  split
  · exact split_slash (parts := [numS q.num.toNat]) (by simp) (fun p hp => by rw [List.mem_singleton.mp hp]; exact sl_free _)
  · have := split_slash (parts := [numS q.num.toNat, numS q.den]) (by simp) (fun p hp => by
      rcases List.mem_cons.mp hp with e | e
      · rw [e]; exact sl_free _
      · rw [List.mem_singleton.mp e]; exact sl_free _)
    rw [join_eq] at this
    exact this
theorem fracS_len {q : Rat} (h : PQ q) : (fracS q).length ≤ 19 := by
  have l1 := (numS_len (n := q.num.toNat) (by have := h.num; omega)).2
  have l2 := (numS_len (n := q.den) (by have := h.den; omega)).2
  unfold fracS
  split
  · omega
  · have h1 : (tl (Str.ofString "/")).length = 1 := by decide +kernel
    rw [len_tl] at l1 l2
    rw [len_tl, tl_append, tl_append, List.length_append, List.length_append, h1]
    omega
theorem ratio_in_ok {q : Rat} (h : PQ q) : Mi.m_ratio_in [.val (.str (fracS q))] = .ok (dQ q, [.val (.str (fracS q))]) := by
  have hn : (q.num.toNat : Int) = q.num := Int.toNat_of_nonneg (by have := h.pos; omega)
  have w1 := whole_ok (n := q.num.toNat) (by have := h.num; omega)
  have w2 := whole_ok (n := q.den) (by have := h.den; omega)
  rw [hn] at w1
  have hfl := fracS_len h
  have hsp : opSplit (fracS q) (.str (Str.ofString "/")) = some (.lst ((Txt.split (fracS q) (Str.ofString "/")).map .str)) := by
    simp only [opSplit]
    rw [if_pos ⟨by decide +kernel, size_le (by omega)⟩]
  let ws : List Str := Txt.split (fracS q) (Str.ofString "/")
  let ns : List Int := if q.den = 1 then [q.num] else [q.num, (q.den : Int)]
  have hm : mLc [3] (mItems (mM1 opSplit (mVar 0) (mC (.str "/")))) (gSet 3) (mYes) (mCall Mi.m_whole_in (mCons (mVar 3) (mNil))) [.val (.str (fracS q)), .un, .un, .un] = .ok (.lst (ns.map .int), [.val (.str (fracS q)), .un, .un, .un]) := by
    rw [a_mLc]
    simp only [a_mItems, a_mM1, a_mVar0, a_mC, bind_ok, asStr, hsp, lft_some, itemsOf]
    rw [if_pos (by rfl)]
    show (lcGo _ _ _ _ _ _ [.val (.str (fracS q)), .un, .un, .un]).bind _ = _
    have key := lcGo_map (vs := [3]) (g := gSet 3) (mt := mYes) (me := mCall Mi.m_whole_in (mCons (mVar 3) (mNil))) (ρ := [.val (.str (fracS q)), .un, .un, .un])
      (fun d => @ite _ (d = .str (numS q.num.toNat)) (Classical.propDecidable _) (.int q.num) (.int q.den)) ((Txt.split (fracS q) (Str.ofString "/")).map .str) (by rw [split_frac]; split <;> simp) (fun d hd => by
        obtain ⟨x, hx, rfl⟩ := List.mem_map.mp hd
        refine ⟨[.val (.str (fracS q)), .un, .un, .val (.str x)], rfl, _, rfl, [.val (.str (fracS q)), .un, .un, .val (.str x)], ?_, rfl⟩
        by_cases e : x = numS q.num.toNat
        · subst e
          rw [if_pos rfl]
          simp [mVar, w1]
        · rw [if_neg (fun z => e (D.str.inj z))]
          have : x = numS q.den := by
            rw [split_frac] at hx
            split at hx
            · exact absurd (List.mem_singleton.mp hx) e
            · rcases List.mem_cons.mp hx with z | z
              · exact absurd z e
              · exact List.mem_singleton.mp z
          subst this
          simp [mVar, w2])
    rw [key, split_frac]
    simp only [bind_ok]
    congr 3
    show _ = ns.map D.int
    by_cases hd : q.den = 1
    · simp [ns, hd]
    · simp only [ns, hd, if_false, List.map_cons, List.map_nil, if_true]
      by_cases e : numS q.den = numS q.num.toNat
      · have : q.den = q.num.toNat := numL_inj (by rw [← tl_numS, ← tl_numS, e])
        rw [if_pos (by rw [e])]
        congr 2
        rw [this, hn]
      · rw [if_neg (fun z => e (D.str.inj z))]
  have hin : ∀ is : List Int, opIn .non (.lst (is.map .int)) = some (.bl false) := fun is => by
    have e1 : toFs (is.map D.int) = some (is.map V.int) := by
      induction is with
      | nil => rfl
      | cons i is ih => simp [toFs, toF, ih]
    have e2 : inV .non (is.map V.int) = false := by
      unfold inV
      rw [List.any_eq_false]
      intro x hx
      obtain ⟨i, _, rfl⟩ := List.mem_map.mp hx
      simp [eqV]
    simp only [opIn, inD, toF, e1, e2]
    rfl
  have hin1 : opIn .non (.lst [.int q.num]) = some (.bl false) := hin [q.num]
  have hin2 : opIn .non (.lst [.int q.num, .int q.den]) = some (.bl false) := hin [q.num, q.den]
  by_cases hd : q.den = 1
  · refine fun_ret (ρ' := [.val (.str (fracS q)), .val (.lst (ns.map .int)), .un, .un]) rfl ?_
    unfold Mi.M_ratio_in
    refine (seq_nxt (ρ' := [.val (.str (fracS q)), .val (.lst (ns.map .int)), .un, .un]) ?_).trans ((seq_nxt (ρ' := [.val (.str (fracS q)), .val (.lst (ns.map .int)), .un, .un]) ?_).trans (seq_ret ?_))
    · show mSet _ _ [.val (.str (fracS q)), .un, .un, .un] = _
      rw [a_mSet, a_mVal, a_mOfL, hm]
      rfl
    · simp [mVar, hin1, hin2, asBl, opGt, ns, hd]
    · simp [mVar, asBl, ns, hd, opEq_int, dQ, size_le, opIx, atI_zero]
  · have hir := is_ratio_ok q
    refine fun_ret (ρ' := [.val (.str (fracS q)), .val (.lst (ns.map .int)), .val (dQ q), .un]) rfl ?_
    unfold Mi.M_ratio_in
    refine (seq_nxt (ρ' := [.val (.str (fracS q)), .val (.lst (ns.map .int)), .un, .un]) ?_).trans ((seq_nxt (ρ' := [.val (.str (fracS q)), .val (.lst (ns.map .int)), .un, .un]) ?_).trans ((seq_nxt (ρ' := [.val (.str (fracS q)), .val (.lst (ns.map .int)), .un, .un]) ?_).trans ((seq_nxt (ρ' := [.val (.str (fracS q)), .val (.lst (ns.map .int)), .val (dQ q), .un]) ?_).trans ?_)))
    · show mSet _ _ [.val (.str (fracS q)), .un, .un, .un] = _
      rw [a_mSet, a_mVal, a_mOfL, hm]
      rfl
    · simp [mVar, hin1, hin2, asBl, opGt, ns, hd]
    · simp [mVar, asBl, ns, hd, opEq_int]
    · have i1 : opIx (.lst [.int q.num, .int q.den]) (.int 1) = some (.int q.den) := rfl
      have i0 : opIx (.lst [.int q.num, .int q.den]) (.int 0) = some (.int q.num) := rfl
      simp [mVar, ns, hd, i0, i1, size_le, dQ, kd]
    · have hd1 : (1 : Int) < (q.den : Int) := by have := q.den_pos; omega
      have i1 : opIx (dQ q) (.int 1) = some (.int q.den) := rfl
      simp [mVar, i1, opGt, asBl, hd1, hir]
end DF
namespace DF
open PySem PySem.Spec L2 Evl TL
def stepS (i : Int) : Str := Str.ofString (toString i)
def wordsOf (r : Row) : List Str := ["step", stepS r.i, stepS r.j, fracS r.q]
theorem step5 {P : Int → Prop} {i : Int} (h : -1 ≤ i ∧ i ≤ 3) (h1 : P (-1)) (h2 : P 0) (h3 : P 1) (h4 : P 2) (h5 : P 3) : P i := by
  have : i = -1 ∨ i = 0 ∨ i = 1 ∨ i = 2 ∨ i = 3 := by omega
  rcases this with rfl | rfl | rfl | rfl | rfl <;> assumption
theorem sS1 : stepS (-1) = "-1" := by decide +kernel
theorem sS2 : stepS 0 = "0" := by decide +kernel
theorem sS3 : stepS 1 = "1" := by decide +kernel
theorem sS4 : stepS 2 = "2" := by decide +kernel
theorem sS5 : stepS 3 = "3" := by decide +kernel
theorem step_in_words {i : Int} (h : -1 ≤ i ∧ i ≤ 3) : opIn (.str (stepS i)) (.tup [.str "-1", .str "0", .str "1", .str "2", .str "3"]) = some (.bl true) := by
  refine step5 (P := fun i => opIn (.str (stepS i)) (.tup [.str "-1", .str "0", .str "1", .str "2", .str "3"]) = some (.bl true)) h ?_ ?_ ?_ ?_ ?_
  · rw [sS1]; rfl
  · rw [sS2]; rfl
  · rw [sS3]; rfl
  · rw [sS4]; rfl
  · rw [sS5]; rfl
theorem step_int {i : Int} (h : -1 ≤ i ∧ i ≤ 3) : fInt [.str (stepS i)] = some (.int i) := by
  have key : ∀ (x : Str) (j : Int), x.length ≤ 640 → PySem.intText? x = some j → fInt [.str x] = some (.int j) := fun x j h1 h2 => by
    simp only [fInt]
    rw [if_pos h1, h2]
    rfl
  refine step5 (P := fun i => fInt [.str (stepS i)] = some (.int i)) h ?_ ?_ ?_ ?_ ?_
  · rw [sS1]; exact key _ _ (by decide +kernel) (by decide +kernel)
  · rw [sS2]; exact key _ _ (by decide +kernel) (by decide +kernel)
  · rw [sS3]; exact key _ _ (by decide +kernel) (by decide +kernel)
  · rw [sS4]; exact key _ _ (by decide +kernel) (by decide +kernel)
  · rw [sS5]; exact key _ _ (by decide +kernel) (by decide +kernel)
theorem opNe_strs (x : Str) : opNe (.str x) (.str x) = some (.bl false) := by simp [opNe, eqD]
theorem step_in_ok {r : Row} (hi : -1 ≤ r.i ∧ r.i ≤ 3) (hj : -1 ≤ r.j ∧ r.j ≤ 3) (hq : PQ r.q) : Mi.m_step_in [.val (.lst ((wordsOf r).map .str))] = .ok (rowD r, [.val (.lst ((wordsOf r).map .str))]) := by
  let W : D := .lst ((wordsOf r).map .str)
  have hW : W = .lst [.str "step", .str (stepS r.i), .str (stepS r.j), .str (fracS r.q)] := rfl
  have hsl : opSl W (some 1) (some (-1)) = some (.lst [.str (stepS r.i), .str (stepS r.j)]) := rfl
  have hm : mLc [2] (mItems (mSl (mVar 0) (mPart (mC (.int (1)))) (mPart (mUn opNeg (mC (.int (1))))))) (gSet 2) (mYes) (mBin opIn (mVar 2) (mC (.tup [(.str "-1"), (.str "0"), (.str "1"), (.str "2"), (.str "3")]))) [.val W, .un, .un] = .ok (.lst (List.replicate 2 (.bl true)), [.val W, .un, .un]) := by
    rw [a_mLc]
    simp only [a_mItems, a_mSl, a_mVar0, a_mPart, a_mC, a_mUn, opNeg, bind_ok, lft_some, hsl, itemsOf]
    rw [if_pos (by rfl)]
    show (lcGo _ _ _ _ _ _ [.val W, .un, .un]).bind _ = _
    rw [lcGo_map (fun _ => .bl true) _ (by simp) (fun d hd => by
      have : ∃ i : Int, d = .str (stepS i) ∧ -1 ≤ i ∧ i ≤ 3 := by
        rcases List.mem_cons.mp hd with e | e
        · exact ⟨_, e, hi⟩
        · rcases List.mem_cons.mp e with e | e
          · exact ⟨_, e, hj⟩
          · cases e
      obtain ⟨i, rfl, h1⟩ := this
      refine ⟨[.val W, .un, .val (.str (stepS i))], rfl, _, rfl, [.val W, .un, .val (.str (stepS i))], ?_, rfl⟩
      simp [mVar, step_in_words h1])]
    rfl
  have hrat := ratio_in_ok hq
  have n1 : opNe (.int 4) (.int 4) = some (.bl false) := by rw [opNe_int]; rfl
  have x0 : opIx W (.int 0) = some (.str "step") := rfl
  have x1 : opIx W (.int 1) = some (.str (stepS r.i)) := rfl
  have x2 : opIx W (.int 2) = some (.str (stepS r.j)) := rfl
  have xl : opIx W (.int (-1)) = some (.str (fracS r.q)) := rfl
  have hlen : fLen [W] = some (.int 4) := rfl
  have qp : ¬ (r.q.num ≤ 0) := by have := hq.pos; omega
  have q0 : opIx (dQ r.q) (.int 0) = some (.int r.q.num) := rfl
  refine fun_ret (ρ' := [.val W, .val (dQ r.q), .un]) rfl ?_
  unfold Mi.M_step_in
  refine (seq_nxt (ρ' := [.val W, .un, .un]) ?_).trans ((seq_nxt (ρ' := [.val W, .val (dQ r.q), .un]) ?_).trans ((seq_nxt (ρ' := [.val W, .val (dQ r.q), .un]) ?_).trans ?_))
  · show mIfS _ _ _ [.val W, .un, .un] = _
    have e1 : mTest (mBin opNe (mCallN fLen (mCons (mVar 0) mNil)) (mC (.int 4))) [.val W, .un, .un] = .ok (false, [.val W, .un, .un]) := by simp [hlen, n1, asBl]
    have e2 : mTest (mBin opNe (mBin opIx (mVar 0) (mC (.int 0))) (mC (.str "step"))) [.val W, .un, .un] = .ok (false, [.val W, .un, .un]) := by simp [x0, opNe_strs, asBl]
    rw [a_mIfS, a_mOrT, e1]
    simp only [bind_ok, Bool.false_eq_true, if_false]
    rw [a_mOrT, e2]
    simp only [bind_ok, Bool.false_eq_true, if_false]
    rw [a_mNotT, a_mTest, a_mCallN, a_mCons, a_mOfL, hm]
    rfl
  · show mSet _ _ [.val W, .un, .un] = _
    simp [xl, opNeg, hrat, kd]
  · simp [mVar, opIs, isNon, dQ, asBl, ix0, opLe, qp]
  · simp [mVar, x1, x2, step_int hi, step_int hj, size_le, rowD]
end DF
namespace DF
open PySem PySem.Spec L2 Evl TL
abbrev regsD : D := .tup [.str "inside", .str "first", .str "second", .str "none"]
theorem four {P : Nat → Prop} {k : Nat} (h : k < 4) (h0 : P 0) (h1 : P 1) (h2 : P 2) (h3 : P 3) : P k := by
  have : k = 0 ∨ k = 1 ∨ k = 2 ∨ k = 3 := by omega
  rcases this with rfl | rfl | rfl | rfl <;> assumption
theorem regs_ix {k : Nat} (h : k < 4) : opIx regsD (.int k) = some (.str (regName k)) := four (P := fun k => opIx regsD (.int k) = some (.str (regName k))) h rfl rfl rfl rfl
theorem least_ok {k : Nat} (h : k < 4) : Mi.m_least_of_region [.val (.str (regName k))] = .ok (pD (regLow k), [.val (.str (regName k))]) := by
  have key : ∀ (x : Str) (a b : Bool), opIn (.str x) (.tup [.str "second", .str "none"]) = some (.bl a) → opIn (.str x) (.tup [.str "first", .str "none"]) = some (.bl b) →
      Mi.m_least_of_region [.val (.str x)] = .ok (pD (if a then 0 else -1, if b then 0 else -1), [.val (.str x)]) := fun x a b h1 h2 => by
    refine fun_ret (ρ' := [.val (.str x)]) rfl ?_
    unfold Mi.M_least_of_region
    cases a <;> cases b <;> simp [size_le, h1, h2, asBl, opNeg, pD]
  exact four (P := fun k => Mi.m_least_of_region [.val (.str (regName k))] = .ok (pD (regLow k), [.val (.str (regName k))])) h (key _ false false rfl rfl) (key _ false true rfl rfl) (key _ true false rfl rfl) (key _ true true rfl rfl)
theorem is_integer_ok (i a b : Int) : Mi.m_is_integer [.val (.int i), .val (.int a), .val (.int b)] = .ok (.bl (decide (a ≤ i) && decide (i ≤ b)), [.val (.int i), .val (.int a), .val (.int b)]) := by
  refine fun_ret (ρ' := [.val (.int i), .val (.int a), .val (.int b)]) rfl ?_
  unfold Mi.M_is_integer
  by_cases h : a ≤ i
  · simp [is_whole_ok, asBl, mVar, opLe, h]
  · simp [is_whole_ok, asBl, mVar, opLe, h]
def canB (k : Nat) (i j : Int) : Bool := (decide ((regLow k).1 ≤ i) && decide (i ≤ 3)) && (decide ((regLow k).2 ≤ j) && decide (j ≤ 3))
theorem can_ok {k : Nat} (h : k < 4) (i j : Int) : Mi.m_can_stand [.val (.str (regName k)), .val (.int i), .val (.int j)] = .ok (.bl (canB k i j), [.val (.str (regName k)), .val (.int i), .val (.int j)]) := by
  have hl := least_ok h
  refine fun_ret (ρ' := [.val (.str (regName k)), .val (.int i), .val (.int j), .val (.int (regLow k).1), .val (.int (regLow k).2)]) rfl ?_
  unfold Mi.M_can_stand
  refine (seq_nxt (ρ' := [.val (.str (regName k)), .val (.int i), .val (.int j), .val (.int (regLow k).1), .val (.int (regLow k).2)]) ?_).trans ?_
  · simp [hl, pD]
    rfl
  · by_cases h1 : ((regLow k).1 ≤ i ∧ i ≤ 3)
    · simp [mVar, is_integer_ok, asBl, h1, canB]
    · have : (decide ((regLow k).1 ≤ i) && decide (i ≤ 3)) = false := by
        rw [Bool.and_eq_false_iff]; simp; omega
      simp [mVar, is_integer_ok, asBl, this, canB]
/-! pairs among pairs -/
def pP (p : Int × Int) : PyData := .tuple [.int p.1, .int p.2]
theorem toP_pair (p : Int × Int) : toP (pD p) = some (pP p) := rfl
theorem toPs_pairs (ps : List (Int × Int)) : toPs (ps.map pD) = some (ps.map pP) := by
  induction ps with
  | nil => rfl
  | cons p ps ih => simp [toPs, toP_pair, ih]
theorem pairs_shape (ps : List (Int × Int)) : SeqAt.shaped (.list (ps.map pP)) = true := by
  have h1 : PyData.canLayAll0 (ps.map pP) = true ∧ PyData.depthAll (ps.map pP) ≤ 1 := by
    induction ps with
    | nil => exact ⟨rfl, by decide⟩
    | cons p ps ih => exact ⟨by simp only [List.map_cons, PyData.canLayAll0, ih.1]; rfl, by simp only [List.map_cons, PyData.depthAll]; have : (pP p).depth = 1 := rfl; omega⟩
  unfold SeqAt.shaped
  rw [show PyData.canLay0 (.list (ps.map pP)) = true from h1.1, decide_eq_true (by simp only [PyData.depth]; omega)]
  rfl
theorem eqv_pair (p q : Int × Int) : PyData.eqv (pP p) (pP q) = decide (p = q) := by
  obtain ⟨a, b⟩ := p
  obtain ⟨c, d⟩ := q
  simp only [pP, PyData.eqv, PyData.eqvAll, Bool.and_true, Prod.mk.injEq]
  by_cases h1 : a = c <;> by_cases h2 : b = d <;> simp [h1, h2]
theorem in_pairs (p : Int × Int) (ps : List (Int × Int)) : opIn (pD p) (.lst (ps.map pD)) = some (.bl (decide (p ∈ ps))) := by
  have h1 : toF (pD p) = none := rfl
  have h2 : SeqAt.shaped (pP p) = true := by
    unfold SeqAt.shaped
    rfl
  have h3 : ((ps.map pP).any fun z => PyData.eqv z (pP p)) = decide (p ∈ ps) := by
    rw [List.any_map]
    induction ps with
    | nil => simp
    | cons q ps ih =>
      rw [List.any_cons, ih]
      simp only [Function.comp, eqv_pair]
      by_cases e : q = p
      · simp [e]
      · simp [e, Ne.symm e]
  simp only [opIn, inD, h1]
  rw [toP_pair, toPs_pairs]
  simp only
  rw [if_pos ⟨h2, pairs_shape ps⟩, h3]
  rfl
theorem has_step_ok (rows : List Row) (i j : Int) (hl : rows.length ≤ 1000) : Mi.m_has_step [.val (.lst (rows.map rowD)), .val (.int i), .val (.int j)] = .ok (.bl (decide ((i, j) ∈ rows.map fun r => (r.i, r.j))), [.val (.lst (rows.map rowD)), .val (.int i), .val (.int j)]) := by
  have hm : mLc [3] (mItems (mVar 0)) (gSet 3) (mYes) (mSl (mVar 3) (mNoPart) (mPart (mC (.int (2))))) [.val (.lst (rows.map rowD)), .val (.int i), .val (.int j), .un] = .ok (.lst ((rows.map fun r => (r.i, r.j)).map pD), [.val (.lst (rows.map rowD)), .val (.int i), .val (.int j), .un]) := by
    rw [a_mLc]
    simp only [a_mItems, a_mVar0, bind_ok, itemsOf, lft_some]
    rw [if_pos (by rfl)]
    show (lcGo _ _ _ _ _ _ [.val (.lst (rows.map rowD)), .val (.int i), .val (.int j), .un]).bind _ = _
    rw [lcGo_map (fun d => match d with
      | .tup (a :: b :: _) => .tup [a, b]
      | _ => .non) _ (by simp; omega) (fun d hd => by
      obtain ⟨r, _, rfl⟩ := List.mem_map.mp hd
      refine ⟨[.val (.lst (rows.map rowD)), .val (.int i), .val (.int j), .val (rowD r)], rfl, _, rfl, [.val (.lst (rows.map rowD)), .val (.int i), .val (.int j), .val (rowD r)], ?_, rfl⟩
      have : opSl (rowD r) none (some 2) = some (.tup [.int r.i, .int r.j]) := rfl
      simp [mVar, this]
      rfl)]
    simp only [bind_ok, List.map_map]
    rfl
  refine fun_ret (ρ' := [.val (.lst (rows.map rowD)), .val (.int i), .val (.int j), .un]) rfl ?_
  unfold Mi.M_has_step
  show mRet _ [.val (.lst (rows.map rowD)), .val (.int i), .val (.int j), .un] = _
  have hip := in_pairs (i, j) (rows.map fun r => (r.i, r.j))
  have e1 : mTup (mCons (mVar 1) (mCons (mVar 2) (mNil))) [.val (.lst (rows.map rowD)), .val (.int i), .val (.int j), .un] = .ok (pD (i, j), [.val (.lst (rows.map rowD)), .val (.int i), .val (.int j), .un]) := by simp [mVar, size_le, pD]
  rw [a_mRet, a_mBin, e1]
  simp only [bind_ok]
  rw [a_mOfL, hm]
  simp only [bind_ok, Ct.toD, hip, lft_some]
/-! words of a line -/
theorem toFs_strs (ws : List Str) : toPs (ws.map .str) = some (ws.map .str) := by
  induction ws with
  | nil => rfl
  | cons w ws ih => simp [toPs, toP, ih]
theorem strs_good {n : Nat} {ws : List Str} (h : ∀ w ∈ ws, PyData.strOk w = true) : Good (n + 1) (.lst (ws.map .str)) := Good.lst fun d hd => by
  obtain ⟨w, hw, rfl⟩ := List.mem_map.mp hd
  exact Good.str (h w hw)
theorem eq_strs {ws vs : List Str} (h : ∀ w ∈ ws, PyData.strOk w = true) (h' : ∀ w ∈ vs, PyData.strOk w = true) : opEq (.lst (ws.map .str)) (.lst (vs.map .str)) = some (.bl (decide (ws = vs))) := by
  unfold opEq
  by_cases e : ws = vs
  · subst e
    rw [eqD_same (n := 2) (by decide) (strs_good h), decide_eq_true rfl]
    rfl
  · rw [eqD_diff (n := 2) (by decide) (strs_good h) (strs_good h') (fun z => e (by
      have z := D.lst.inj z
      have := congrArg (List.map fun d => match d with | .str x => x | _ => Str.empty) z
      simpa [List.map_map, Function.comp_def] using this)), decide_eq_false e]
    rfl
theorem reg_strOk (k : Nat) : PyData.strOk (regName k) = true := by
  unfold regName
  split <;> decide +kernel
theorem next_ok {fs : List D} {ws : List Str} (hf : fs.length ≤ 4) (h : ∀ w ∈ ws, PyData.strOk w = true) : Mi.m_is_next_region [.val (.lst fs), .val (.lst (ws.map .str))] = .ok (.bl (decide (fs.length < 4 ∧ ws = [regName fs.length])), [.val (.lst fs), .val (.lst (ws.map .str))]) := by
  refine fun_ret (ρ' := [.val (.lst fs), .val (.lst (ws.map .str))]) rfl ?_
  unfold Mi.M_is_next_region
  by_cases h4 : fs.length < 4
  · have h4' : (fs.length : Int) < 4 := by omega
    have e1 := regs_ix h4
    have e2 := eq_strs (vs := [regName fs.length]) h (fun w hw => by rw [List.mem_singleton.mp hw]; exact reg_strOk _)
    simp only [List.map_cons, List.map_nil] at e2
    simp [mVar, opLt, h4', asBl, e1, size_le, Ct.toD, e2, h4]
  · have h4' : ¬ (fs.length : Int) < 4 := by omega
    simp [mVar, opLt, h4', asBl, h4]
end DF
namespace DF
open PySem PySem.Spec L2 Evl TL
theorem cd_pq {w W : Int} (h0 : 0 < w) (hw : w ≤ W) (hW : W ≤ 900000) : PQ (Rat.divInt w W) := by
  have hb := divInt_qb (a := w) (W := W) (k := 20) (by omega) (by omega) (by omega)
  have h1 := hb.num
  have h2 := hb.den
  refine ⟨?_, by omega, by omega⟩
  rw [Rat.num_divInt, Int.sign_eq_one_of_pos (by omega), Int.one_mul]
  exact Int.ediv_pos_of_pos_of_dvd h0 (by omega) (Int.gcd_dvd_right _ _)
theorem cd_list {W : Int} : ∀ {qs : List Rat}, (∀ q ∈ qs, ∃ w : Int, 0 < w ∧ w ≤ W ∧ q = Rat.divInt w W) → ∃ ws : List Int, qs = ws.map (fun w => Rat.divInt w W) ∧ ∀ w ∈ ws, 0 < w ∧ w ≤ W
  | [], _ => ⟨[], rfl, by simp⟩
  | q :: qs, h => by
    obtain ⟨w, h1, h2, h3⟩ := h q (List.mem_cons_self ..)
    obtain ⟨ws, h4, h5⟩ := cd_list fun x hx => h x (List.mem_cons_of_mem _ hx)
    exact ⟨w :: ws, by rw [h3, h4]; rfl, fun x hx => by
      rcases List.mem_cons.mp hx with e | e
      · rw [e]; exact ⟨h1, h2⟩
      · exact h5 x e⟩
theorem sum_le {W : Int} (hW : 0 ≤ W) : ∀ {ws : List Int}, (∀ w ∈ ws, 0 < w ∧ w ≤ W) → 0 ≤ ws.sum ∧ ws.sum ≤ W * ws.length
  | [], _ => by simp
  | w :: ws, h => by
    have h1 := h w (List.mem_cons_self ..)
    have h2 := sum_le hW fun x hx => h x (List.mem_cons_of_mem _ hx)
    simp only [List.sum_cons, List.length_cons]
    rw [show W * ((ws.length + 1 : Nat) : Int) = W * ws.length + W by rw [Int.natCast_add, Int.mul_add]; simp]
    omega
theorem qb_mono {a b : Nat} {q : Rat} (h : QB a q) (hab : a ≤ b) : QB b q := ⟨pow_big h.num hab, pow_big h.den hab⟩
theorem cd_qs {W : Int} {qs : List Rat} (hW : 0 < W) (hW2 : W ≤ 900000) (hl : qs.length ≤ 1000) (h : ∀ q ∈ qs, ∃ w : Int, 0 < w ∧ w ≤ W ∧ q = Rat.divInt w W) : QS qs := by
  obtain ⟨ws, rfl, hw⟩ := cd_list h
  refine ⟨fun q hq => ?_, fun i => ?_⟩
  · obtain ⟨w, hw', rfl⟩ := List.mem_map.mp hq
    have := hw w hw'
    exact qb_mono (divInt_qb (k := 20) (by omega) (by omega) (by omega)) (by decide)
  · rw [← List.map_take, qsum_divInt (by omega)]
    have h1 := sum_le (W := W) (by omega) (ws := ws.take i) fun w hw' => hw w (List.mem_of_mem_take hw')
    have h2 : (ws.take i).length ≤ 1000 := by rw [List.length_take]; simp at hl; omega
    have h3 : W * ((ws.take i).length : Int) ≤ 900000 * 1000 := Int.mul_le_mul hW2 (by omega) (by omega) (by omega)
    exact qb_mono (divInt_qb (k := 40) (by omega) (by omega) (by omega)) (by decide)
theorem RowsOk.pq {lo : Int × Int} {rows : List Row} (h : RowsOk lo rows) : ∀ r ∈ rows, PQ r.q := fun r hr => by
  obtain ⟨W, h1, h2, h3⟩ := h.cd
  obtain ⟨w, h4, h5, h6⟩ := h3 r hr
  rw [h6]
  exact cd_pq h4 h5 h2
theorem RowsOk.qs {lo : Int × Int} {rows sub : List Row} (h : RowsOk lo rows) (hs : ∀ r ∈ sub, r ∈ rows) (hl : sub.length ≤ 1000) : QS (sub.map (·.q)) := by
  obtain ⟨W, h1, h2, h3⟩ := h.cd
  refine cd_qs h1 h2 (by simpa using hl) fun q hq => ?_
  obtain ⟨r, hr, rfl⟩ := List.mem_map.mp hq
  exact h3 r (hs r hr)
/-! ### the words are texts -/
theorem strOk_of {x : Str} (h : ∀ c ∈ tl x, c < 256) : PyData.strOk x = true := by
  unfold PyData.strOk
  rw [← Array.all_toList, List.all_eq_true]
  intro c hc
  have := h c hc
  simp
  omega
theorem numS_small (n : Nat) : ∀ c ∈ tl (numS n), c < 256 := fun c hc => by
  rw [tl_numS] at hc
  have := numL_digits n c hc
  omega
theorem fracS_small (q : Rat) : ∀ c ∈ tl (fracS q), c < 256 ∧ c ≠ 10 ∧ c ≠ 32 := fun c hc => by
  have key : ∀ n, ∀ c ∈ tl (numS n), c < 256 ∧ c ≠ 10 ∧ c ≠ 32 := fun n c hc => by
    rw [tl_numS] at hc
    have := numL_digits n c hc
    omega
  unfold fracS at hc
  split at hc
  · exact key _ c hc
  · rw [tl_append, tl_append] at hc
    rcases List.mem_append.mp hc with h | h
    · rcases List.mem_append.mp h with h | h
      · exact key _ c h
      · rw [tl_slash] at h
        rw [List.mem_singleton.mp h]
        omega
    · exact key _ c h
theorem stepS_small {i : Int} (h : -1 ≤ i ∧ i ≤ 3) : ∀ c ∈ tl (stepS i), c < 256 ∧ c ≠ 10 ∧ c ≠ 32 := by
  refine step5 (P := fun i => ∀ c ∈ tl (stepS i), c < 256 ∧ c ≠ 10 ∧ c ≠ 32) h ?_ ?_ ?_ ?_ ?_
  · rw [sS1]; decide +kernel
  · rw [sS2]; decide +kernel
  · rw [sS3]; decide +kernel
  · rw [sS4]; decide +kernel
  · rw [sS5]; decide +kernel
theorem words_small {r : Row} (hi : -1 ≤ r.i ∧ r.i ≤ 3) (hj : -1 ≤ r.j ∧ r.j ≤ 3) : ∀ w ∈ wordsOf r, ∀ c ∈ tl w, c < 256 ∧ c ≠ 10 ∧ c ≠ 32 := fun w hw => by
  unfold wordsOf at hw
  rcases List.mem_cons.mp hw with e | hw
  · rw [e]; decide +kernel
  rcases List.mem_cons.mp hw with e | hw
  · rw [e]; exact stepS_small hi
  rcases List.mem_cons.mp hw with e | hw
  · rw [e]; exact stepS_small hj
  · rw [List.mem_singleton.mp hw]; exact fracS_small _
theorem words_ok {r : Row} (hi : -1 ≤ r.i ∧ r.i ≤ 3) (hj : -1 ≤ r.j ∧ r.j ≤ 3) : ∀ w ∈ wordsOf r, PyData.strOk w = true := fun w hw => strOk_of fun c hc => (words_small hi hj w hw c hc).1
/-! ### does_step_stand -/
theorem row_good (r : Row) : Good 2 (rowD r) := Good.tup fun d hd => by
  rcases List.mem_cons.mp hd with e | hd
  · rw [e]; exact Good.int _
  rcases List.mem_cons.mp hd with e | hd
  · rw [e]; exact Good.int _
  · rw [List.mem_singleton.mp hd]
    exact Good.tup fun d hd => by
      rcases List.mem_cons.mp hd with e | hd
      · rw [e]; exact Good.int _
      · rw [List.mem_singleton.mp hd]; exact Good.int _
theorem rows_good (rows : List Row) : Good 3 (.lst (rows.map rowD)) := Good.lst fun d hd => by
  obtain ⟨r, _, rfl⟩ := List.mem_map.mp hd
  exact row_good r
abbrev rowsD (rows : List Row) : List D := rows.map rowD
theorem rss_good (rss : List (List Row)) : Good 4 (.lst ((rss.map rowsD).map .lst)) := Good.lst fun d hd => by
  rw [List.map_map] at hd
  obtain ⟨r, _, rfl⟩ := List.mem_map.mp hd
  exact rows_good r
abbrev wl (ws : List Str) : D := .lst (ws.map .str)
theorem stand_ok {k : Nat} {rss : List (List Row)} {ps : List Row} {r : Row} (hk : k < 4) (hr : rss.length = k) (hl : ps.length < 12) (hi : (regLow k).1 ≤ r.i ∧ r.i ≤ 3) (hj : (regLow k).2 ≤ r.j ∧ r.j ≤ 3) (hq : PQ r.q) (hn : (r.i, r.j) ∉ ps.map fun r => (r.i, r.j)) :
    Mi.F_does_step_stand ((rss ++ [ps]).map rowsD) (wl (wordsOf r)) = some (some (rowD r)) := by
  have hlo := regLow_rng k
  have hsi := step_in_ok (r := r) (by omega) (by omega) hq
  let F : D := .lst (((rss ++ [ps]).map rowsD).map .lst)
  have hlen : fLen [F] = some (.int ((k + 1 : Nat) : Int)) := by simp [F, fLen, hr]
  have hne : opEq F (.lst []) = some (.bl false) := by
    unfold opEq
    rw [eqD_diff (n := 4) (by decide) (rss_good _) (Good.lst (n := 3) (ds := []) (by simp)) (fun z => by
      have := D.lst.inj z
      simp at this)]
    rfl
  have hlast : ((rss ++ [ps]).map rowsD).getLast? = some (rowsD ps) := by simp
  have hix := regs_ix hk
  have hcan := can_ok hk r.i r.j
  have hcb : canB k r.i r.j = true := by unfold canB; simp; omega
  rw [hcb] at hcan
  have hhs := has_step_ok ps r.i r.j (by omega)
  rw [decide_eq_false hn] at hhs
  have r0 : opIx (rowD r) (.int 0) = some (.int r.i) := rfl
  have r1 : opIx (rowD r) (.int 1) = some (.int r.j) := rfl
  have hl12 : opEq (.int (ps.length : Int)) (.int 12) = some (.bl false) := by rw [opEq_int, decide_eq_false (by omega)]
  unfold Mi.F_does_step_stand stF
  have e1 : ev (mCall Mi.m_step_in (mCons (mVar 1) (mNil))) [.un, .val (wl (wordsOf r)), .un, .un] = some (rowD r) := by simp [ev, mVar, hsi]
  rw [e1]
  simp only [Option.bind_some]
  have e2 : et (mOrT (mTest (mBin opIs (mVar 2) (mC .non))) (mTest (mBin opEq (mVar 0) (mOfL (mLstL (mNil)))))) [.val F, .val (wl (wordsOf r)), .val (rowD r), .un] = some false := by
    simp [et, mVar, opIs, isNon, rowD, asBl, Ct.toD, hne]
  rw [e2]
  simp only [Option.bind_some, Bool.false_eq_true, if_false]
  rw [hlast]
  simp only [Option.bind_some]
  have e4 : et (mNotT (mTest (mCall Mi.m_can_stand (mCons (mBin opIx (mC regsD) (mBin opSub (mCallN fLen (mCons (mVar 0) (mNil))) (mC (.int (1))))) (mCons (mBin opIx (mVar 2) (mC (.int (0)))) (mCons (mBin opIx (mVar 2) (mC (.int (1)))) (mNil))))))) [.val F, .val (wl (wordsOf r)), .val (rowD r), .val (.lst (rowsD ps))] = some false := by
    have : (((k + 1 : Nat) : Int) - 1) = (k : Int) := by omega
    simp only [et, a_mNotT, a_mTest, a_mCall, a_mCons, a_mBin, a_mC, a_mCallN, a_mVar0, a_mNil, bind_ok, hlen, lft_some, opSub, this, hix, mVar, List.getElem?_cons_succ, List.getElem?_cons_zero, r0, r1, List.map_cons, List.map_nil, hcan, okR_ok, asBl]
    rfl
  rw [e4]
  simp only [Option.bind_some, Bool.false_eq_true, if_false]
  have e5 : et (mOrT (mTest (mBin opEq (mCallN fLen (mCons (mVar 3) (mNil))) (mC (.int (12))))) (mTest (mCall Mi.m_has_step (mCons (mVar 3) (mCons (mBin opIx (mVar 2) (mC (.int (0)))) (mCons (mBin opIx (mVar 2) (mC (.int (1)))) (mNil))))))) [.val F, .val (wl (wordsOf r)), .val (rowD r), .val (.lst (rowsD ps))] = some false := by
    have hl2 : fLen [.lst (rowsD ps)] = some (.int (ps.length : Int)) := by simp [fLen]
    simp only [et, a_mOrT, a_mTest, a_mCall, a_mCons, a_mBin, a_mC, a_mCallN, a_mNil, bind_ok, hl2, lft_some, hl12, mVar, List.getElem?_cons_succ, List.getElem?_cons_zero, r0, r1, List.map_cons, List.map_nil, hhs, okR_ok, asBl]
    rfl
  rw [e5]
  simp only [Option.bind_some, Bool.false_eq_true, if_false]
  rw [if_pos (size_lt (by simp; omega))]
end DF
namespace DF
open PySem PySem.Spec L2 Evl TL
theorem enumD_app : ∀ (a b : List D) (i : Nat), enumD i (a ++ b) = enumD i a ++ enumD (i + a.length) b
  | [], b, i => by simp [enumD]
  | d :: a, b, i => by
    simp only [List.cons_append, enumD, enumD_app a b (i + 1), List.length_cons]
    rw [show i + 1 + a.length = i + (a.length + 1) by omega]
theorem nx_ok {rss : List (List Row)} {ws : List Str} (hl : rss.length ≤ 4) (h : ∀ w ∈ ws, PyData.strOk w = true) :
    Mi.R_regions_in.nx (rss.map rowsD) (wl ws) = some (decide (rss.length < 4 ∧ ws = [regName rss.length])) := by
  have := next_ok (fs := (rss.map rowsD).map .lst) (ws := ws) (by simpa using hl) h
  simp only [List.length_map] at this
  show et (mTest (mCall Mi.m_is_next_region (mCons (mVar 2) (mCons (mVar 5) (mNil))))) [.un, .un, .val (.lst ((rss.map rowsD).map .lst)), .un, .un, .val (wl ws), .un, .un, .un, .un] = _
  simp only [et, a_mTest, a_mCall, a_mCons, a_mNil, mVar, List.getElem?_cons_succ, List.getElem?_cons_zero, bind_ok, List.map_cons, List.map_nil, this, okR_ok, lft_some, asBl]
  rfl
theorem go_rows {k : Nat} (hk : k < 4) {rows : List Row} (hr : RowsOk (regLow k) rows) {rest : List D} {ends : List Int} {rss : List (List Row)} (hl : rss.length = k) : ∀ (todo done : List Row) (i : Nat), rows = done ++ todo →
    regGo Mi.R_regions_in.nx Mi.R_regions_in.st (enumD i (todo.map fun r => wl (wordsOf r)) ++ rest) ((rss ++ [done]).map rowsD) ends = regGo Mi.R_regions_in.nx Mi.R_regions_in.st rest ((rss ++ [done ++ todo]).map rowsD) ends
  | [], done, i, e => by simp [enumD]
  | r :: todo, done, i, e => by
    have hlo := regLow_rng k
    have hmem : r ∈ rows := by rw [e]; simp
    have hrng := hr.rng r hmem
    have hw := words_ok (r := r) (by omega) (by omega)
    have hnd := hr.nd
    rw [e, List.map_append, List.map_cons, List.nodup_append] at hnd
    have hn : (r.i, r.j) ∉ done.map fun r => (r.i, r.j) := fun z => hnd.2.2 _ z _ (List.mem_cons_self ..) rfl
    have hlen : done.length < 12 := by have := hr.len; rw [e] at this; simp at this; omega
    have e1 := nx_ok (rss := rss ++ [done]) (ws := wordsOf r) (by simp; omega) hw
    have hf : ¬ ((rss ++ [done]).length < 4 ∧ wordsOf r = [regName (rss ++ [done]).length]) := fun z => by
      have := congrArg List.length z.2
      simp [wordsOf] at this
    rw [decide_eq_false hf] at e1
    have e2 : Mi.R_regions_in.st ((rss ++ [done]).map rowsD) (wl (wordsOf r)) = some (some (rowD r)) := stand_ok hk hl hlen hrng.1 hrng.2 (hr.pq r hmem) hn
    rw [List.map_cons, enumD, List.cons_append]
    conv => lhs; unfold regGo
    rw [e1]
    simp only [Option.bind_some, Bool.false_eq_true, if_false]
    rw [e2]
    simp only [Option.bind_some]
    have hal : addLast (rowD r) ((rss ++ [done]).map rowsD) = (rss ++ [done ++ [r]]).map rowsD := by
      have key : ∀ (xs : List (List D)) (ds : List D) (d : D), addLast d (xs ++ [ds]) = xs ++ [ds ++ [d]] := by
        intro xs
        induction xs with
        | nil => intro ds d; rfl
        | cons x xs ih =>
          intro ds d
          cases xs with
          | nil => rfl
          | cons y ys =>
            have := ih ds d
            simp only [List.cons_append] at this ⊢
            simp only [addLast]
            rw [this]
      simp only [List.map_append, List.map_cons, List.map_nil]
      rw [key]
    rw [hal]
    have ih := go_rows hk hr (rest := rest) (ends := ends) hl todo (done ++ [r]) (i + 1) (by rw [e]; simp)
    rw [ih, List.append_assoc]
    rfl
abbrev segW (k : Nat) (rows : List Row) : List (List Str) := [regName k] :: rows.map wordsOf
theorem go_region {k : Nat} (hk : k < 4) {rows : List Row} (hr : RowsOk (regLow k) rows) {rest : List D} {ends : List Int} {rss : List (List Row)} (hl : rss.length = k) (he : ends.length ≤ 100) (i : Nat) :
    ∃ e : Int, regGo Mi.R_regions_in.nx Mi.R_regions_in.st (enumD i ((segW k rows).map wl) ++ rest) (rss.map rowsD) ends = regGo Mi.R_regions_in.nx Mi.R_regions_in.st rest ((rss ++ [rows]).map rowsD) (ends ++ [e]) := by
  refine ⟨(i : Nat) + 2, ?_⟩
  have e1 := nx_ok (rss := rss) (ws := [regName k]) (by omega) (fun w hw => by rw [List.mem_singleton.mp hw]; exact reg_strOk _)
  rw [decide_eq_true (by rw [hl]; exact ⟨hk, rfl⟩)] at e1
  rw [List.map_cons, enumD, List.cons_append]
  conv => lhs; unfold regGo
  rw [e1]
  simp only [Option.bind_some, if_true]
  rw [if_pos ⟨size_lt (by simp; omega), size_lt (by omega)⟩]
  have := go_rows hk hr (rest := rest) (ends := ends ++ [((i : Nat) : Int) + 2]) hl rows [] (i + 1) rfl
  simp only [List.nil_append] at this
  rw [← this]
  simp only [List.map_append, List.map_cons, List.map_nil, List.map_map]
  rfl
abbrev allW (rs : Nat → List Row) : List (List Str) := segW 0 (rs 0) ++ segW 1 (rs 1) ++ segW 2 (rs 2) ++ segW 3 (rs 3)
abbrev allR (rs : Nat → List Row) : List (List Row) := [rs 0, rs 1, rs 2, rs 3]
theorem go_all {rs : Nat → List Row} (h : ∀ k, k < 4 → RowsOk (regLow k) (rs k)) :
    ∃ ends : List Int, regGo Mi.R_regions_in.nx Mi.R_regions_in.st (enumD 0 ((allW rs).map wl)) [] [] = some (.inr ((allR rs).map rowsD, ends)) ∧ ends.length = 4 := by
  obtain ⟨e0, h0⟩ := go_region (k := 0) (by decide) (h 0 (by decide)) (rest := enumD (0 + (segW 0 (rs 0)).length) ((segW 1 (rs 1) ++ segW 2 (rs 2) ++ segW 3 (rs 3)).map wl)) (ends := []) (rss := []) rfl (by simp) 0
  obtain ⟨e1, h1⟩ := go_region (k := 1) (by decide) (h 1 (by decide)) (rest := enumD (0 + (segW 0 (rs 0)).length + (segW 1 (rs 1)).length) ((segW 2 (rs 2) ++ segW 3 (rs 3)).map wl)) (ends := [e0]) (rss := [rs 0]) rfl (by simp) (0 + (segW 0 (rs 0)).length)
  obtain ⟨e2, h2⟩ := go_region (k := 2) (by decide) (h 2 (by decide)) (rest := enumD (0 + (segW 0 (rs 0)).length + (segW 1 (rs 1)).length + (segW 2 (rs 2)).length) ((segW 3 (rs 3)).map wl)) (ends := [e0, e1]) (rss := [rs 0, rs 1]) rfl (by simp) (0 + (segW 0 (rs 0)).length + (segW 1 (rs 1)).length)
  obtain ⟨e3, h3⟩ := go_region (k := 3) (by decide) (h 3 (by decide)) (rest := []) (ends := [e0, e1, e2]) (rss := [rs 0, rs 1, rs 2]) rfl (by simp) (0 + (segW 0 (rs 0)).length + (segW 1 (rs 1)).length + (segW 2 (rs 2)).length)
  refine ⟨[e0, e1, e2, e3], ?_, rfl⟩
  have ea : enumD 0 ((allW rs).map wl) = enumD 0 ((segW 0 (rs 0)).map wl) ++ enumD (0 + (segW 0 (rs 0)).length) ((segW 1 (rs 1) ++ segW 2 (rs 2) ++ segW 3 (rs 3)).map wl) := by
    unfold allW
    rw [List.append_assoc, List.append_assoc, List.map_append, enumD_app, List.length_map, List.append_assoc]
  have eb : enumD (0 + (segW 0 (rs 0)).length) ((segW 1 (rs 1) ++ segW 2 (rs 2) ++ segW 3 (rs 3)).map wl) = enumD (0 + (segW 0 (rs 0)).length) ((segW 1 (rs 1)).map wl) ++ enumD (0 + (segW 0 (rs 0)).length + (segW 1 (rs 1)).length) ((segW 2 (rs 2) ++ segW 3 (rs 3)).map wl) := by
    rw [List.append_assoc, List.map_append, enumD_app, List.length_map]
  have ec : enumD (0 + (segW 0 (rs 0)).length + (segW 1 (rs 1)).length) ((segW 2 (rs 2) ++ segW 3 (rs 3)).map wl) = enumD (0 + (segW 0 (rs 0)).length + (segW 1 (rs 1)).length) ((segW 2 (rs 2)).map wl) ++ enumD (0 + (segW 0 (rs 0)).length + (segW 1 (rs 1)).length + (segW 2 (rs 2)).length) ((segW 3 (rs 3)).map wl) := by
    rw [List.map_append, enumD_app, List.length_map]
  rw [List.append_nil] at h3
  rw [ea]
  refine h0.trans ?_
  rw [eb]
  refine h1.trans ?_
  rw [ec]
  refine h2.trans ?_
  refine h3.trans ?_
  rfl
/-! ### the sums -/
theorem dQ_good (q : Rat) : Good 1 (dQ q) := Good.tup (n := 0) (fun d hd => by
  rcases List.mem_cons.mp hd with e | hd
  · rw [e]; exact Good.int _
  · rw [List.mem_singleton.mp hd]; exact Good.int _)
theorem dQ_one : dQ 1 = .tup [.int 1, .int 1] := rfl
theorem tail_ok {rs : Nat → List Row} {rowsV : List D} {ends : List Int} (h : ∀ k, k < 4 → RowsOk (regLow k) (rs k)) (he : ends.length = 4) (hrv : rowsV.length ≤ 1000) :
    Mi.R_regions_in.tail (.lst rowsV) ((allR rs).map rowsD) ends = some (.tup [.lst (((allR rs).map rowsD).map .lst), .non]) := by
  let F : D := .lst (((allR rs).map rowsD).map .lst)
  have hF4 : F = .lst [.lst (rowsD (rs 0)), .lst (rowsD (rs 1)), .lst (rowsD (rs 2)), .lst (rowsD (rs 3))] := rfl
  let E : Ct := .lst ((ends ++ [((rowsV.length : Nat) : Int) + 1]).map .int)
  have step : ∀ (k : Nat) (hk : k < 4) (s4 s6 : Slot), isPl s4 = true → isPl s6 = true → ∃ s4' s6', isPl s4' = true ∧ isPl s6' = true ∧ ∃ ρ1, gTupD 2 (gsCons (gSet 4) (gsCons (gSet 6) (gsNil))) (.tup [.int (k : Nat), .lst (rowsD (rs k))]) [.un, .val (.lst rowsV), .val F, .own E, s4, .un, s6, .un, .un, .un] = .ok ρ1 ∧
      mIfS (mTest (mBin opNe (mCall Mi.m_total (mCons (mOfL (mLc [7, 8, 9] (mItems (mVar 6)) (gTupD 3 (gsCons (gSet 7) (gsCons (gSet 8) (gsCons (gSet 9) (gsNil))))) (mYes) (mVar 9))) (mNil))) (mC (.tup [(.int (1)), (.int (1))])))) (mRet (mTup (mCons (mC .non) (mCons (mIxO 3 (mBin opAdd (mVar 4) (mC (.int (1))))) (mNil))))) (mPass) ρ1 = .ok (.nxt [.un, .val (.lst rowsV), .val F, .own E, s4', .un, s6', .un, .un, .un]) := by
    intro k hk s4 s6 hs4 hs6
    have hr := h k hk
    refine ⟨.val (.int (k : Nat)), .val (.lst (rowsD (rs k))), rfl, rfl, [.un, .val (.lst rowsV), .val F, .own E, .val (.int (k : Nat)), .un, .val (.lst (rowsD (rs k))), .un, .un, .un], ?_, ?_⟩
    · cases s4 <;> cases s6 <;> simp [isPl] at hs4 hs6 <;> rfl
    · have hm : mLc [7, 8, 9] (mItems (mVar 6)) (gTupD 3 (gsCons (gSet 7) (gsCons (gSet 8) (gsCons (gSet 9) (gsNil))))) (mYes) (mVar 9) [.un, .val (.lst rowsV), .val F, .own E, .val (.int (k : Nat)), .un, .val (.lst (rowsD (rs k))), .un, .un, .un] =
          .ok (.lst (((rs k).map (·.q)).map dQ), [.un, .val (.lst rowsV), .val F, .own E, .val (.int (k : Nat)), .un, .val (.lst (rowsD (rs k))), .un, .un, .un]) := by
        rw [a_mLc]
        simp only [a_mItems, mVar, List.getElem?_cons_succ, List.getElem?_cons_zero, bind_ok, itemsOf, lft_some]
        rw [if_pos (by rfl)]
        show (lcGo _ _ _ _ _ _ [.un, .val (.lst rowsV), .val F, .own E, .val (.int (k : Nat)), .un, .val (.lst (rowsD (rs k))), .un, .un, .un]).bind _ = _
        rw [lcGo_map (fun d => match d with
          | .tup [_, _, c] => c
          | _ => .non) _ (by have := hr.len; simp; omega) (fun d hd => by
          obtain ⟨r, _, rfl⟩ := List.mem_map.mp hd
          exact ⟨[.un, .val (.lst rowsV), .val F, .own E, .val (.int (k : Nat)), .un, .val (.lst (rowsD (rs k))), .val (.int r.i), .val (.int r.j), .val (dQ r.q)], rfl, _, rfl, [.un, .val (.lst rowsV), .val F, .own E, .val (.int (k : Nat)), .un, .val (.lst (rowsD (rs k))), .val (.int r.i), .val (.int r.j), .val (dQ r.q)], rfl, rfl⟩)]
        simp only [bind_ok, rowsD, List.map_map]
        rfl
      have ht := m_total_ok (hr.qs (sub := rs k) (fun _ hx => hx) (by have := hr.len; omega))
      rw [hr.one] at ht
      have hne : opNe (dQ 1) (.tup [.int 1, .int 1]) = some (.bl false) := by
        rw [← dQ_one]
        unfold opNe
        rw [eqD_same (n := 1) (by decide) (dQ_good 1)]
        rfl
      rw [a_mIfS, a_mTest, a_mBin, a_mCall, a_mCons, a_mOfL, hm]
      simp only [bind_ok, Ct.toD, a_mNil, List.map_cons, List.map_nil, ht, okR_ok, lft_some, a_mC, hne, asBl, Bool.false_eq_true, if_false, a_mPass]
  obtain ⟨a0, b0, ha0, hb0, g0, hg0, hm0⟩ := step 0 (by decide) .un .un rfl rfl
  obtain ⟨a1, b1, ha1, hb1, g1, hg1, hm1⟩ := step 1 (by decide) a0 b0 ha0 hb0
  obtain ⟨a2, b2, ha2, hb2, g2, hg2, hm2⟩ := step 2 (by decide) a1 b1 ha1 hb1
  obtain ⟨a3, b3, ha3, hb3, g3, hg3, hm3⟩ := step 3 (by decide) a2 b2 ha2 hb2
  have hres : Mi.R_regions_in.mt [.un, .val (.lst rowsV), .val F, .own (.lst (ends.map .int)), .un, .un, .un, .un, .un, .un] = .ok (.ret (.tup [F, .non]) [.un, .val (.lst rowsV), .val F, .own E, a3, .un, b3, .un, .un, .un]) := by
    refine (seq_nxt (ρ' := [.un, .val (.lst rowsV), .val F, .own E, .un, .un, .un, .un, .un, .un]) ?_).trans ((seq_nxt (ρ' := [.un, .val (.lst rowsV), .val F, .own E, a3, .un, b3, .un, .un, .un]) ?_).trans ?_)
    · have hz : (ends.map D.int).length < sizeLine := size_lt (by simp; omega)
      simp only [a_mApp, ctL, ctOf, List.getElem?_cons_succ, List.getElem?_cons_zero, lft_some, bind_ok, a_mBin, a_mCallN, a_mCons, a_mNil, mVar, a_mC, fLen, opAdd]
      rw [if_pos hz]
      simp only [E, List.map_append, List.map_cons, List.map_nil]
      rfl
    · refine for_of (ds := [.tup [.int (0 : Nat), .lst (rowsD (rs 0))], .tup [.int (1 : Nat), .lst (rowsD (rs 1))], .tup [.int (2 : Nat), .lst (rowsD (rs 2))], .tup [.int (3 : Nat), .lst (rowsD (rs 3))]]) rfl ?_
      unfold forGo; rw [hg0]; simp only [bind_ok]; rw [hm0]; simp only [bind_ok]
      unfold forGo; rw [hg1]; simp only [bind_ok]; rw [hm1]; simp only [bind_ok]
      unfold forGo; rw [hg2]; simp only [bind_ok]; rw [hm2]; simp only [bind_ok]
      unfold forGo; rw [hg3]; simp only [bind_ok]; rw [hm3]; simp only [bind_ok]
      rfl
    · have hl4 : fLen [F] = some (.int 4) := rfl
      have h44 : opEq (.int 4) (.int 4) = some (.bl true) := by rw [opEq_int]; rfl
      simp [mVar, hl4, h44, asBl, size_le]
  unfold RegM.tail
  rw [show (((allR rs).map rowsD).map D.lst) = [.lst (rowsD (rs 0)), .lst (rowsD (rs 1)), .lst (rowsD (rs 2)), .lst (rowsD (rs 3))] from rfl] at *
  rw [show ([Slot.un, .val (.lst rowsV), .val (.lst [.lst (rowsD (rs 0)), .lst (rowsD (rs 1)), .lst (rowsD (rs 2)), .lst (rowsD (rs 3))]), .own (.lst (ends.map .int)), .un, .un, .un, .un, .un, .un] : Env) = [.un, .val (.lst rowsV), .val F, .own (.lst (ends.map .int)), .un, .un, .un, .un, .un, .un] from rfl, hres]
  rfl
end DF
namespace DF
open PySem PySem.Spec L2 Evl TL
/-! ### lines -/
abbrev nlS : Str := Str.ofString "\n"
abbrev spS : Str := Str.ofString " "
theorem tl_nl : tl nlS = [10] := by decide +kernel
theorem tl_sp : tl spS = [32] := by decide +kernel
def lineOf (ws : List Str) : Str := Txt.join spS ws
theorem line_one (x : Str) : lineOf [x] = x := by unfold lineOf; rw [join_eq]; rfl
theorem mem_joinL {s : List Nat} : ∀ {ps : List (List Nat)} {c : Nat}, c ∈ joinL s ps → c ∈ s ∨ ∃ p ∈ ps, c ∈ p
  | [], c, h => by simp [joinL] at h
  | [p], c, h => .inr ⟨p, by simp, h⟩
  | p :: q :: r, c, h => by
    have h : c ∈ p ++ (s ++ joinL s (q :: r)) := h
    rcases List.mem_append.mp h with h | h
    · exact .inr ⟨p, by simp, h⟩
    · rcases List.mem_append.mp h with h | h
      · exact .inl h
      · rcases mem_joinL h with h | ⟨x, hx, h⟩
        · exact .inl h
        · exact .inr ⟨x, List.mem_cons_of_mem _ hx, h⟩
theorem line_free {ws : List Str} (h : ∀ w ∈ ws, ∀ c ∈ tl w, c < 256 ∧ c ≠ 10 ∧ c ≠ 32) : 10 ∉ tl (lineOf ws) := fun z => by
  unfold lineOf at z
  rw [join_eq, tl_join, tl_sp] at z
  rcases mem_joinL z with h1 | ⟨p, hp, h1⟩
  · simp at h1
  · obtain ⟨w, hw, rfl⟩ := List.mem_map.mp hp
    exact (h w hw 10 h1).2.1 rfl
theorem line_split {ws : List Str} (hne : ws ≠ []) (h : ∀ w ∈ ws, ∀ c ∈ tl w, c < 256 ∧ c ≠ 10 ∧ c ≠ 32) : Txt.split (lineOf ws) spS = ws :=
  split_join tl_sp (by decide +kernel) hne fun p hp z => (h p hp 32 z).2.2 rfl
theorem text_split {wss : List (List Str)} (hne : wss ≠ []) (h : ∀ ws ∈ wss, ∀ w ∈ ws, ∀ c ∈ tl w, c < 256 ∧ c ≠ 10 ∧ c ≠ 32) : Txt.split (Txt.join nlS (wss.map lineOf)) nlS = wss.map lineOf :=
  split_join tl_nl (by decide +kernel) (by simpa using hne) fun p hp => by
    obtain ⟨ws, hw, rfl⟩ := List.mem_map.mp hp
    exact line_free (h ws hw)
theorem sum_len {α : Type} {f : α → Nat} {b : Nat} : ∀ {l : List α}, (∀ a ∈ l, f a ≤ b) → (l.map f).sum ≤ b * l.length
  | [], _ => by simp
  | a :: l, h => by
    have h1 := h a (List.mem_cons_self ..)
    have h2 := sum_len (l := l) fun x hx => h x (List.mem_cons_of_mem _ hx)
    simp only [List.map_cons, List.sum_cons, List.length_cons, Nat.mul_succ]
    omega
theorem line_len {ws : List Str} (hl : ws.length ≤ 4) (h : ∀ w ∈ ws, w.length ≤ 20) : (lineOf ws).length ≤ 84 := by
  unfold lineOf
  rw [join_eq]
  have h1 := StrLaws.join_length_le spS ws
  have h2 := sum_len (f := fun w : Str => w.length) (b := 20) h
  have h3 : spS.length = 1 := by decide +kernel
  rw [h3] at h1
  omega
theorem strsOf_map (ws : List Str) : strsOf (ws.map .str) = some ws := by
  induction ws with
  | nil => rfl
  | cons w ws ih => simp [strsOf, ih]
theorem join_op {sep : Str} {ws : List Str} {b : Nat} (h : ∀ w ∈ ws, w.length ≤ b) (hb : b ≤ 1000) (hs : sep.length = 1) (hl : ws.length ≤ 1000) : opJoin sep (.lst (ws.map .str)) = some (.str (Txt.join sep ws)) := by
  have h2 := sum_len (f := fun w : Str => w.length) (b := b) h
  have h3 : b * ws.length ≤ 1000 * 1000 := Nat.mul_le_mul hb hl
  simp only [opJoin, strsOf_map, Option.bind_some]
  rw [if_pos (by rw [hs]; omega)]
/-- a book's lines -/
structure WOk (wss : List (List Str)) : Prop where
  sm : ∀ ws ∈ wss, ∀ w ∈ ws, ∀ c ∈ tl w, c < 256 ∧ c ≠ 10 ∧ c ≠ 32
  ne : ∀ ws ∈ wss, ws ≠ []
  wl4 : ∀ ws ∈ wss, ws.length ≤ 4
  w20 : ∀ ws ∈ wss, ∀ w ∈ ws, w.length ≤ 20
theorem stepS_len {i : Int} (h : -1 ≤ i ∧ i ≤ 3) : (stepS i).length ≤ 2 := by
  refine step5 (P := fun i => (stepS i).length ≤ 2) h ?_ ?_ ?_ ?_ ?_
  · rw [sS1]; decide +kernel
  · rw [sS2]; decide +kernel
  · rw [sS3]; decide +kernel
  · rw [sS4]; decide +kernel
  · rw [sS5]; decide +kernel
theorem words_len {r : Row} (hi : -1 ≤ r.i ∧ r.i ≤ 3) (hj : -1 ≤ r.j ∧ r.j ≤ 3) (hq : PQ r.q) : ∀ w ∈ wordsOf r, w.length ≤ 20 := fun w hw => by
  unfold wordsOf at hw
  rcases List.mem_cons.mp hw with e | hw
  · rw [e]; decide +kernel
  rcases List.mem_cons.mp hw with e | hw
  · rw [e]; have := stepS_len hi; omega
  rcases List.mem_cons.mp hw with e | hw
  · rw [e]; have := stepS_len hj; omega
  · rw [List.mem_singleton.mp hw]; have := fracS_len hq; omega
theorem reg_small (k : Nat) : ∀ c ∈ tl (regName k), c < 256 ∧ c ≠ 10 ∧ c ≠ 32 := by
  unfold regName
  split <;> decide +kernel
theorem reg_len (k : Nat) : (regName k).length ≤ 20 := by
  unfold regName
  split <;> decide +kernel
theorem seg_ok {k : Nat} (hk : k < 4) {rows : List Row} (hr : RowsOk (regLow k) rows) : WOk (segW k rows) := by
  have hlo := regLow_rng k
  refine ⟨fun ws hws => ?_, fun ws hws => ?_, fun ws hws => ?_, fun ws hws => ?_⟩
  all_goals
    rcases List.mem_cons.mp hws with e | h
    · rw [e]
      first
        | exact fun w hw => by rw [List.mem_singleton.mp hw]; exact reg_small k
        | exact fun w hw => by rw [List.mem_singleton.mp hw]; exact reg_len k
        | simp
    · obtain ⟨r, hr', rfl⟩ := List.mem_map.mp h
      have hrng := hr.rng r hr'
      first
        | exact words_small (by omega) (by omega)
        | exact words_len (by omega) (by omega) (hr.pq r hr')
        | simp [wordsOf]
theorem WOk.app {a b : List (List Str)} (h : WOk a) (k : WOk b) : WOk (a ++ b) :=
  ⟨fun ws hw => (List.mem_append.mp hw).elim (h.sm ws) (k.sm ws), fun ws hw => (List.mem_append.mp hw).elim (h.ne ws) (k.ne ws), fun ws hw => (List.mem_append.mp hw).elim (h.wl4 ws) (k.wl4 ws), fun ws hw => (List.mem_append.mp hw).elim (h.w20 ws) (k.w20 ws)⟩
abbrev headW : List (List Str) := [["book"]]
theorem head_ok : WOk headW := by
  refine ⟨fun ws hws => ?_, fun ws hws => ?_, fun ws hws => ?_, fun ws hws => ?_⟩ <;> rw [List.mem_singleton.mp hws] <;> decide +kernel
def bookW (rs : Nat → List Row) : List (List Str) := headW ++ allW rs
def bookText (rs : Nat → List Row) : Str := Txt.join nlS ((bookW rs).map lineOf)
abbrev BOk (rs : Nat → List Row) : Prop := ∀ k, k < 4 → RowsOk (regLow k) (rs k)
theorem bookW_ok {rs : Nat → List Row} (h : BOk rs) : WOk (bookW rs) :=
  head_ok.app ((((seg_ok (by decide) (h 0 (by decide))).app (seg_ok (by decide) (h 1 (by decide)))).app (seg_ok (by decide) (h 2 (by decide)))).app (seg_ok (by decide) (h 3 (by decide))))
theorem bookW_len {rs : Nat → List Row} (h : BOk rs) : (bookW rs).length ≤ 100 := by
  have h0 := (h 0 (by decide)).len
  have h1 := (h 1 (by decide)).len
  have h2 := (h 2 (by decide)).len
  have h3 := (h 3 (by decide)).len
  simp [bookW, headW, allW, segW]
  omega
theorem bookText_len {rs : Nat → List Row} (h : BOk rs) : (bookText rs).length ≤ 20000 := by
  have hw := bookW_ok h
  have hl := bookW_len h
  unfold bookText
  rw [join_eq]
  have h1 := StrLaws.join_length_le nlS ((bookW rs).map lineOf)
  have h2 := sum_len (l := (bookW rs).map lineOf) (f := fun w : Str => w.length) (b := 84) (fun x hx => by
    obtain ⟨ws, hws, rfl⟩ := List.mem_map.mp hx
    exact line_len (hw.wl4 ws hws) (hw.w20 ws hws))
  have h3 : nlS.length = 1 := by decide +kernel
  rw [h3, List.length_map] at h1
  rw [List.length_map] at h2
  omega
theorem lines_ok {rs : Nat → List Row} (h : BOk rs) : Mi.m_lines_of [.val (.str (bookText rs))] = .ok (.lst ((bookW rs).map wl), [.val (.str (bookText rs))]) := by
  have hw := bookW_ok h
  have hl := bookW_len h
  have htl := bookText_len h
  have hsp : opSplit (bookText rs) (.str nlS) = some (.lst (((bookW rs).map lineOf).map .str)) := by
    simp only [opSplit]
    rw [if_pos ⟨by decide +kernel, size_le (by omega)⟩]
    unfold bookText
    rw [text_split (by simp [bookW]) hw.sm]
  have hm : mLc [1] (mItems (mM1 opSplit (mVar 0) (mC (.str "\n")))) (gSet 1) (mYes) (mM1 opSplit (mVar 1) (mC (.str " "))) [.val (.str (bookText rs)), .un] = .ok (.lst ((bookW rs).map wl), [.val (.str (bookText rs)), .un]) := by
    rw [a_mLc]
    simp only [a_mItems, a_mM1, a_mVar0, a_mC, bind_ok, asStr, hsp, lft_some, itemsOf]
    rw [if_pos (by rfl)]
    show (lcGo _ _ _ _ _ _ [.val (.str (bookText rs)), .un]).bind _ = _
    rw [lcGo_map (fun d => match d with
      | .str x => wl (Txt.split x spS)
      | _ => .non) _ (by simp; omega) (fun d hd => by
      obtain ⟨x, hx, rfl⟩ := List.mem_map.mp hd
      obtain ⟨ws, hws, rfl⟩ := List.mem_map.mp hx
      refine ⟨[.val (.str (bookText rs)), .val (.str (lineOf ws))], rfl, _, rfl, [.val (.str (bookText rs)), .val (.str (lineOf ws))], ?_, rfl⟩
      have hll := line_len (hw.wl4 ws hws) (hw.w20 ws hws)
      have h2 : opSplit (lineOf ws) (.str spS) = some (wl (Txt.split (lineOf ws) spS)) := by
        simp only [opSplit]
        rw [if_pos ⟨by decide +kernel, size_le (by omega)⟩]
      simp only [a_mM1, mVar, List.getElem?_cons_succ, List.getElem?_cons_zero, bind_ok, asStr, lft_some, a_mC]
      rw [h2]
      rfl)]
    simp only [bind_ok, List.map_map]
    congr 3
    refine List.map_congr_left fun ws hws => ?_
    show wl (Txt.split (lineOf ws) spS) = wl ws
    rw [line_split (hw.ne ws hws) (hw.sm ws hws)]
  refine fun_ret (ρ' := [.val (.str (bookText rs)), .un]) rfl ?_
  unfold Mi.M_lines_of
  show mRet _ [.val (.str (bookText rs)), .un] = _
  rw [a_mRet, a_mOfL, hm]
  rfl
/-! ### regions_in, Book -/
theorem regions_ok {rs : Nat → List Row} (h : BOk rs) : Mi.m_regions_in [.val (.str (bookText rs))] = .ok (.tup [.lst (((allR rs).map rowsD).map .lst), .non], [.val (.str (bookText rs))]) := by
  have hl := lines_ok h
  have hlen := bookW_len h
  obtain ⟨ends, hgo, he⟩ := go_all h
  have ht := tail_ok (rowsV := (bookW rs).map wl) h he (by simp; omega)
  have hhead : (bookW rs).map wl = wl ["book"] :: (allW rs).map wl := rfl
  have a0 : ev Mi.R_regions_in.m0 [.val (.str (bookText rs)), .un, .un, .un, .un, .un, .un, .un, .un, .un] = some (.lst ((bookW rs).map wl)) := by
    show ev (mCall Mi.m_lines_of (mCons (mVar 0) (mNil))) _ = _
    simp only [ev, a_mCall, a_mCons, a_mNil, a_mVar0, bind_ok, List.map_cons, List.map_nil, hl, okR_ok, lft_some]
    rfl
  have gb : Good 1 (wl ["book"]) := strs_good (fun w hw => by rw [List.mem_singleton.mp hw]; decide +kernel)
  have hne : opNe (wl ["book"]) (.lst [.str "book"]) = some (.bl false) := by
    show opNe (wl ["book"]) (wl ["book"]) = _
    unfold opNe
    rw [eqD_same (n := 1) (by decide) gb]
    rfl
  have a1 : et Mi.R_regions_in.m1 [.un, .val (.lst ((bookW rs).map wl)), .un, .un, .un, .un, .un, .un, .un, .un] = some false := by
    show et (mTest (mBin opNe (mBin opIx (mVar 1) (mC (.int (0)))) (mOfL (mLstL (mCons (mC (.str "book")) (mNil)))))) _ = _
    have hx : opIx (.lst ((bookW rs).map wl)) (.int 0) = some (wl ["book"]) := by rw [hhead]; exact atI_zero _ _
    have e1 : mOfL (mLstL (mCons (mC (.str "book")) (mNil))) [.un, .val (.lst ((bookW rs).map wl)), .un, .un, .un, .un, .un, .un, .un, .un] = .ok (.lst [.str "book"], [.un, .val (.lst ((bookW rs).map wl)), .un, .un, .un, .un, .un, .un, .un, .un]) := by simp [size_le, Ct.toD]
    simp only [et, a_mTest]
    rw [a_mBin, a_mBin, a_mVar 1 (d := .lst ((bookW rs).map wl)) rfl]
    simp only [bind_ok, a_mC, hx, lft_some, e1, hne, asBl]
    rfl
  have a2 : (okR (Mi.R_regions_in.mi [.un, .val (.lst ((bookW rs).map wl)), .un, .un, .un, .un, .un, .un, .un, .un])).map (·.1) = some (enumD 0 ((allW rs).map wl)) := by
    rw [show Mi.R_regions_in.mi = mIt fEnum (mCons (mSl (mVar 1) (mPart (mC (.int (1)))) (mNoPart)) (mNil)) from rfl]
    have hsl : opSl (.lst ((bookW rs).map wl)) (some 1) none = some (.lst ((allW rs).map wl)) := by
      simp only [opSl, Option.some.injEq, D.lst.injEq]
      unfold cutD
      rw [hhead]
      generalize (allW rs).map wl = L
      have e1 : HT.sIx (wl ["book"] :: L).length 0 (some 1) = 1 := by
        have := HT.sIx_nat (wl ["book"] :: L).length 0 1
        rw [show ((1 : Nat) : Int) = 1 from rfl] at this
        rw [this]; simp
      rw [e1, HT.sIx_none]
      simp
    simp only [a_mIt, a_mCons, a_mSl, mVar, List.getElem?_cons_succ, List.getElem?_cons_zero, bind_ok, a_mPart, a_mC, a_mNoPart, a_mNil, lft_some, hsl, fEnum]
    rfl
  have hans : Mi.R_regions_in.ans (.str (bookText rs)) = some (.tup [.lst (((allR rs).map rowsD).map .lst), .non]) := by
    unfold RegM.ans
    rw [a0]
    simp only [Option.bind_some]
    rw [a1]
    simp only [Option.bind_some, Bool.false_eq_true, if_false]
    rw [a2]
    simp only [Option.bind_some]
    rw [hgo]
    simp only [Option.bind_some]
    exact ht
  show (lft (Mi.R_regions_in.ans (.str (bookText rs)))).bind _ = _
  rw [hans]
  rfl
def regsT (rs : Nat → List Row) : D := .tup ((allR rs).map fun rows => .tup (rowsD rows))
theorem book_ok {rs : Nat → List Row} (h : BOk rs) : Mi.R_Book.fn (.str (bookText rs)) = some (regsT rs) := by
  have hr := regions_ok h
  unfold BookM.fn
  have b1 : et Mi.R_Book.t1 [.un, .val (.str (bookText rs)), .un, .un, .un] = some false := by
    show et (mNotT (mTest (mCallN fIsi (mCons (mVar 1) (mCons (mC (.ty "str")) (mNil)))))) _ = _
    simp [et, mVar, asBl]
  have b2 : ev Mi.R_Book.m2 [.un, .val (.str (bookText rs)), .un, .un, .un] = some (.tup [.lst (((allR rs).map rowsD).map .lst), .non]) := by
    show ev (mCall Mi.m_regions_in (mCons (mVar 1) (mNil))) _ = _
    simp only [ev, a_mCall, a_mCons, a_mNil, mVar, List.getElem?_cons_succ, List.getElem?_cons_zero, bind_ok, List.map_cons, List.map_nil]
    rw [show ((allR rs).map rowsD).map D.lst = [.lst (rowsD (rs 0)), .lst (rowsD (rs 1)), .lst (rowsD (rs 2)), .lst (rowsD (rs 3))] from rfl] at hr
    rw [hr]
    rfl
  let F : D := .lst (((allR rs).map rowsD).map .lst)
  have b3 : et Mi.R_Book.t3 [.un, .un, .val F, .un, .un] = some false := by
    show et (mTest (mBin opIs (mVar 2) (mC .non))) _ = _
    simp [et, mVar, opIs, F, isNon, asBl]
  have b5 : ev Mi.R_Book.m5 [.un, .un, .val F, .un, .un] = some (regsT rs) := by
    show ev (mCallN fTuple (mCons (mOfL (mLc [4] (mItems (mVar 2)) (gSet 4) (mYes) (mCallN fTuple (mCons (mVar 4) (mNil))))) (mNil))) _ = _
    have hm : mLc [4] (mItems (mVar 2)) (gSet 4) (mYes) (mCallN fTuple (mCons (mVar 4) (mNil))) [.un, .un, .val F, .un, .un] = .ok (.lst ((allR rs).map fun rows => .tup (rowsD rows)), [.un, .un, .val F, .un, .un]) := by
      rw [a_mLc]
      simp only [a_mItems, mVar, List.getElem?_cons_succ, List.getElem?_cons_zero, bind_ok, F, itemsOf, lft_some]
      rw [if_pos (by rfl)]
      show (lcGo _ _ _ _ _ _ [.un, .un, .val F, .un, .un]).bind _ = _
      rw [lcGo_map (fun d => match d with
        | .lst ds => .tup ds
        | _ => .non) _ (by simp) (fun d hd => by
        obtain ⟨ds, _, rfl⟩ := List.mem_map.mp hd
        refine ⟨[.un, .un, .val F, .un, .val (.lst ds)], rfl, _, rfl, [.un, .un, .val F, .un, .val (.lst ds)], ?_, rfl⟩
        simp [mVar, fTuple])]
      rfl
    simp only [ev, a_mCallN, a_mCons, a_mOfL, hm, bind_ok, Ct.toD, a_mNil, fTuple, lft_some]
    rfl
  rw [b1]
  simp only [Option.bind_some, Bool.false_eq_true, if_false]
  rw [b2]
  simp only [Option.bind_some]
  rw [b3]
  simp only [Option.bind_some, Bool.false_eq_true, if_false]
  exact b5
end DF
namespace DF
open PySem PySem.Spec L2 Evl TL
theorem law_regions_ok : Mi.m__law_book_regions [] = .ok (regsD, []) := by
  refine fun_ret (ρ' := []) rfl ?_
  unfold Mi.M__law_book_regions
  simp [size_le]
theorem it_regs (ρ : Env) : mItems (mCall Mi.m__law_book_regions mNil) ρ = .ok ([.str (regName 0), .str (regName 1), .str (regName 2), .str (regName 3)], ρ) := by
  simp only [a_mItems, a_mCall, a_mNil, bind_ok, List.map_nil, law_regions_ok, okR_ok, lft_some]
  rfl
abbrev kvL (rs : Nat → List Row) (k : Nat) : List (Str × D) := (List.range k).map fun m => (regName m, .lst (rowsD (rs m)))
def bkD (rs : Nat → List Row) : D := .dct (kvL rs 4)
/-- four regions, one by one -/
theorem for4 {g : MG} {mb : MS} {ρ ρ' : Env} (I : Nat → Env → Prop) (h0 : I 0 ρ) (step : ∀ k, k < 4 → ∀ ρ, I k ρ → ∃ ρ1, g (.str (regName k)) ρ = .ok ρ1 ∧ ∃ ρ2, mb ρ1 = .ok (.nxt ρ2) ∧ I (k + 1) ρ2) :
    ∃ ρ', mFor (mItems (mCall Mi.m__law_book_regions mNil)) g mb ρ = .ok (.nxt ρ') ∧ I 4 ρ' := by
  obtain ⟨ρ', e, h⟩ := forGo_inv (g := g) (mb := mb) (ds := [.str (regName 0), .str (regName 1), .str (regName 2), .str (regName 3)]) I ρ h0 (fun i d ρ hd hI => by
    have hi : i < 4 := (List.getElem?_eq_some_iff.mp hd).1
    have : d = .str (regName i) := four (P := fun i => ∀ d : D, [D.str (regName 0), .str (regName 1), .str (regName 2), .str (regName 3)][i]? = some d → d = .str (regName i)) hi (fun d h => (Option.some.inj h).symm) (fun d h => (Option.some.inj h).symm) (fun d h => (Option.some.inj h).symm) (fun d h => (Option.some.inj h).symm) d hd
    subst this
    exact step i hi ρ hI)
  exact ⟨ρ', for_of (it_regs ρ) e, h⟩
theorem putD_new {rs : Nat → List Row} {k : Nat} (hk : k < 4) (d : D) : putD (kvL rs k) (regName k) d = kvL rs k ++ [(regName k, d)] := four (P := fun k => putD (kvL rs k) (regName k) d = kvL rs k ++ [(regName k, d)]) hk rfl rfl rfl rfl
theorem kvL_succ {rs : Nat → List Row} (k : Nat) : kvL rs (k + 1) = kvL rs k ++ [(regName k, .lst (rowsD (rs k)))] := by
  unfold kvL
  rw [List.range_succ, List.map_append]
  rfl
abbrev BDr (rs : Nat → List Row) : Prop := ∀ k, k < 4 → RowsD (regLow k) (rs k)
theorem BDr.ok {rs : Nat → List Row} (h : BDr rs) : BOk rs := fun k hk => (h k hk).toRowsOk
/-! ### the law's text of a book -/
theorem kvL_get {rs : Nat → List Row} {k : Nat} (hk : k < 4) : (kvL rs 4).lookup (regName k) = some (.lst (rowsD (rs k))) := four (P := fun k => (kvL rs 4).lookup (regName k) = some (.lst (rowsD (rs k)))) hk rfl rfl rfl rfl
theorem bk_ix {rs : Nat → List Row} {k : Nat} (hk : k < 4) : opIx (bkD rs) (.str (regName k)) = some (.lst (rowsD (rs k))) := kvL_get hk
def upW (rs : Nat → List Row) (k : Nat) : List (List Str) := headW ++ (List.range k).flatMap fun m => segW m (rs m)
theorem upW_succ (rs : Nat → List Row) (k : Nat) : upW rs (k + 1) = upW rs k ++ segW k (rs k) := by
  unfold upW
  rw [List.range_succ, List.flatMap_append, List.append_assoc]
  simp
theorem upW_4 (rs : Nat → List Row) : upW rs 4 = bookW rs := by
  unfold upW bookW allW
  simp [List.range_succ]
theorem upW_len {rs : Nat → List Row} (h : BOk rs) : ∀ k, k ≤ 4 → (upW rs k).length ≤ 1 + 13 * k
  | 0, _ => by simp [upW]
  | k + 1, hk => by
    have h1 := upW_len h k (by omega)
    have h2 := (h k (by omega)).len
    rw [upW_succ, List.length_append]
    simp [segW]
    omega
theorem book_text_ok {rs : Nat → List Row} (h : BOk rs) : Mi.m__law_book_text [.val (bkD rs)] = .ok (.str (bookText rs), [.val (bkD rs)]) := by
  obtain ⟨ρ', e2, s, hs, rfl⟩ := for4 (g := gSet 2) (mb := mSeq (mApp 1 (mVar 2)) (mExt 1 (mOfL (mLc [3, 4, 5] (mItems (mBin opIx (mVar 0) (mVar 2))) (gTupD 3 (gsCons (gSet 3) (gsCons (gSet 4) (gsCons (gSet 5) (gsNil))))) (mYes) (mM1 opJoin (mC (.str " ")) (mOfL (mLstL (mCons (mC (.str "step")) (mCons (mCallN fStr (mCons (mVar 3) (mNil))) (mCons (mCallN fStr (mCons (mVar 4) (mNil))) (mCons (mCall Mi.m__law_frac_text (mCons (mVar 5) (mNil))) (mNil))))))))))))
    (ρ := [.val (bkD rs), .own (.lst [.str "book"]), .un, .un, .un, .un]) (ρ' := [])
    (fun k ρ => ∃ s : Slot, isPl s = true ∧ ρ = [.val (bkD rs), .own (.lst (((upW rs k).map lineOf).map .str)), s, .un, .un, .un])
    ⟨.un, rfl, rfl⟩ (fun k hk ρ hI => by
      obtain ⟨s, hs, rfl⟩ := hI
      have hr := h k hk
      have hlo := regLow_rng k
      have hul := upW_len h k (by omega)
      refine ⟨[.val (bkD rs), .own (.lst (((upW rs k).map lineOf).map .str)), .val (.str (regName k)), .un, .un, .un], ?_, [.val (bkD rs), .own (.lst (((upW rs (k + 1)).map lineOf).map .str)), .val (.str (regName k)), .un, .un, .un], ?_, .val (.str (regName k)), rfl, rfl⟩
      · cases s <;> simp [isPl] at hs <;> rfl
      · let A : List D := (((upW rs k).map lineOf).map .str) ++ [.str (regName k)]
        refine (seq_nxt (ρ' := [.val (bkD rs), .own (.lst A), .val (.str (regName k)), .un, .un, .un]) ?_).trans ?_
        · have hz : (((upW rs k).map lineOf).map D.str).length < sizeLine := size_lt (by simp; omega)
          simp only [a_mApp, ctL, ctOf, List.getElem?_cons_succ, List.getElem?_cons_zero, lft_some, bind_ok, mVar]
          rw [if_pos hz]
          rfl
        · have hm : mLc [3, 4, 5] (mItems (mBin opIx (mVar 0) (mVar 2))) (gTupD 3 (gsCons (gSet 3) (gsCons (gSet 4) (gsCons (gSet 5) (gsNil))))) (mYes) (mM1 opJoin (mC (.str " ")) (mOfL (mLstL (mCons (mC (.str "step")) (mCons (mCallN fStr (mCons (mVar 3) (mNil))) (mCons (mCallN fStr (mCons (mVar 4) (mNil))) (mCons (mCall Mi.m__law_frac_text (mCons (mVar 5) (mNil))) (mNil)))))))) [.val (bkD rs), .own (.lst A), .val (.str (regName k)), .un, .un, .un] =
              .ok (.lst ((rs k).map fun r => .str (lineOf (wordsOf r))), [.val (bkD rs), .own (.lst A), .val (.str (regName k)), .un, .un, .un]) := by
            rw [a_mLc]
            simp only [a_mItems, a_mBin, a_mVar0, mVar, List.getElem?_cons_succ, List.getElem?_cons_zero, bind_ok, bk_ix hk, lft_some, itemsOf]
            rw [if_pos (by rfl)]
            show (lcGo _ _ _ _ _ _ [.val (bkD rs), .own (.lst A), .val (.str (regName k)), .un, .un, .un]).bind _ = _
            rw [lcGo_map (fun d => @ite _ (∃ r ∈ rs k, d = rowD r) (Classical.propDecidable _) (match d with
              | .tup [.int i, .int j, .tup [.int a, .int b]] => .str (lineOf ["step", stepS i, stepS j, fracS (Rat.divInt a b)])
              | _ => .non) .non) _ (by have := hr.len; simp; omega) (fun d hd => by
              obtain ⟨r, hr', rfl⟩ := List.mem_map.mp hd
              have hrng := hr.rng r hr'
              have hq := hr.pq r hr'
              refine ⟨[.val (bkD rs), .own (.lst A), .val (.str (regName k)), .val (.int r.i), .val (.int r.j), .val (dQ r.q)], rfl, _, rfl, [.val (bkD rs), .own (.lst A), .val (.str (regName k)), .val (.int r.i), .val (.int r.j), .val (dQ r.q)], ?_, rfl⟩
              rw [if_pos ⟨r, hr', rfl⟩]
              have hft := law_frac_text_ok hq
              have fs : ∀ i : Int, -1 ≤ i ∧ i ≤ 3 → fStr [.int i] = some (.str (stepS i)) := fun i hi => by
                simp only [fStr]
                rw [if_pos (log2_le (k := 1920) (Nat.lt_of_lt_of_le (show i.natAbs < 2 ^ 2 by omega) (Nat.pow_le_pow_right (n := 2) (by decide) (by decide : 2 ≤ 1920))) (by decide))]
                rfl
              have hjo := join_op (sep := spS) (ws := wordsOf r) (b := 20) (words_len (by omega) (by omega) hq) (by decide) (by decide +kernel) (by simp [wordsOf])
              have hjo' : opJoin spS (.lst [.str "step", .str (stepS r.i), .str (stepS r.j), .str (fracS r.q)]) = some (.str (lineOf (wordsOf r))) := hjo
              have hdq : Rat.divInt r.q.num (r.q.den : Int) = r.q := Rat.num_divInt_den r.q
              show _ = Res.ok (D.str (lineOf ["step", stepS r.i, stepS r.j, fracS (Rat.divInt r.q.num (r.q.den : Int))]), _)
              rw [hdq]
              simp [mVar, asStr, fs r.i (by omega), fs r.j (by omega), hft, size_le, Ct.toD, hjo', wordsOf])]
            simp only [bind_ok, List.map_map]
            congr 3
            refine List.map_congr_left fun r hr' => ?_
            simp only [Function.comp]
            rw [if_pos ⟨r, hr', rfl⟩]
            have hdq : Rat.divInt r.q.num (r.q.den : Int) = r.q := Rat.num_divInt_den r.q
            simp only [rowD, dQ, hdq, wordsOf]
          have hz : A.length + ((rs k).map fun r => D.str (lineOf (wordsOf r))).length ≤ sizeLine := by
            have := hr.len
            exact size_le (by simp [A]; omega)
          rw [a_mExt, a_mOfL, hm]
          simp only [ctL, ctOf, List.getElem?_cons_succ, List.getElem?_cons_zero, lft_some, bind_ok, Ct.toD]
          rw [if_pos hz, upW_succ]
          simp only [A, segW, List.map_append, List.map_cons, List.map_map, line_one, List.append_assoc]
          rfl)
  have hw := bookW_ok h
  have hl := bookW_len h
  rw [upW_4] at e2
  refine fun_ret (ρ' := [.val (bkD rs), .val (.lst (((bookW rs).map lineOf).map .str)), s, .un, .un, .un]) rfl ?_
  unfold Mi.M__law_book_text
  refine (seq_nxt (ρ' := [.val (bkD rs), .own (.lst [.str "book"]), .un, .un, .un, .un]) ?_).trans ((seq_nxt e2).trans ?_)
  · simp [size_le, kd]
  · have hjo := join_op (sep := nlS) (ws := (bookW rs).map lineOf) (b := 84) (fun w hw' => by
      obtain ⟨ws, hws, rfl⟩ := List.mem_map.mp hw'
      exact line_len (hw.wl4 ws hws) (hw.w20 ws hws)) (by decide) (by decide +kernel) (by simp; omega)
    rw [a_mFrz]
    show mRet _ [.val (bkD rs), .val (.lst (((bookW rs).map lineOf).map .str)), s, .un, .un, .un] = _
    simp only [a_mRet, a_mM1, a_mC, bind_ok, asStr, lft_some, mVar, List.getElem?_cons_succ, List.getElem?_cons_zero]
    rw [hjo]
    rfl
end DF
namespace DF
open PySem PySem.Spec L2 Evl TL
/-! ### what a mirror comes to -/
def Ev {α : Type} (r : Res α) (Q : α → Prop) : Prop := ∃ a, r = .ok a ∧ Q a
theorem Ev.of {α : Type} {r : Res α} {Q : α → Prop} {a : α} (h : r = .ok a) (q : Q a) : Ev r Q := ⟨a, h, q⟩
@[simp] theorem ev_ok {α : Type} (a : α) (Q : α → Prop) : Ev (.ok a) Q ↔ Q a := ⟨fun ⟨_, h, q⟩ => by cases h; exact q, fun q => ⟨a, rfl, q⟩⟩
@[simp] theorem ev_bind {α β : Type} (r : Res α) (f : α → Res β) (Q : β → Prop) : Ev (r.bind f) Q ↔ Ev r fun a => Ev (f a) Q := by
  cases r with
  | ok a => simp
  | err c d ρ => exact ⟨fun ⟨_, h, _⟩ => (by cases h), fun ⟨_, h, _⟩ => (by cases h)⟩
  | bad => exact ⟨fun ⟨_, h, _⟩ => (by cases h), fun ⟨_, h, _⟩ => (by cases h)⟩
theorem Ev.mono {α : Type} {r : Res α} {Q R : α → Prop} (h : Ev r Q) (k : ∀ a, Q a → R a) : Ev r R := ⟨_, h.choose_spec.1, k _ h.choose_spec.2⟩
theorem Ev.eq {α : Type} {r : Res α} {a : α} (h : Ev r fun x => x = a) : r = .ok a := by obtain ⟨_, h, rfl⟩ := h; exact h
def sq (m2 : MS) (Q : Out → Prop) : Out → Prop
  | .nxt ρ' => Ev (m2 ρ') Q
  | o => Q o
@[simp] theorem sq_nxt (m2 : MS) (Q : Out → Prop) (ρ : Env) : sq m2 Q (.nxt ρ) = Ev (m2 ρ) Q := rfl
@[simp] theorem sq_ret (m2 : MS) (Q : Out → Prop) (d : D) (ρ : Env) : sq m2 Q (.ret d ρ) = Q (.ret d ρ) := rfl
@[simp] theorem sq_brk (m2 : MS) (Q : Out → Prop) (ρ : Env) : sq m2 Q (.brk ρ) = Q (.brk ρ) := rfl
@[simp] theorem sq_cnt (m2 : MS) (Q : Out → Prop) (ρ : Env) : sq m2 Q (.cnt ρ) = Q (.cnt ρ) := rfl
@[simp] theorem ev_seq (m1 m2 : MS) (ρ : Env) (Q : Out → Prop) : Ev (mSeq m1 m2 ρ) Q ↔ Ev (m1 ρ) (sq m2 Q) := by
  rw [a_mSeq, ev_bind]
  constructor
  · rintro ⟨o, h, q⟩
    refine ⟨o, h, ?_⟩
    cases o <;> first | exact q | (obtain ⟨_, h', q'⟩ := q; cases h'; exact q')
  · rintro ⟨o, h, q⟩
    refine ⟨o, h, ?_⟩
    cases o <;> first | exact q | exact ⟨_, rfl, q⟩
def kdS : Slot → Nat
  | .own _ => 1
  | .pin _ => 2
  | _ => 0
theorem kdS_pl {s : Slot} (h : isPl s = true) : kdS s = 0 := by cases s <;> simp [isPl] at h <;> rfl
@[simp] theorem kd_c0 (s : Slot) (r : Env) : kd (s :: r) 0 = kdS s := by cases s <;> rfl
@[simp] theorem kd_c1 (s : Slot) (r : Env) (i : Nat) : kd (s :: r) (i + 1) = kd r i := by unfold kd; rw [List.getElem?_cons_succ]
@[simp] theorem kd_nil (i : Nat) : kd [] i = 0 := by unfold kd; simp
@[simp] theorem kdS_un : kdS .un = 0 := rfl
@[simp] theorem kdS_val (d : D) : kdS (.val d) = 0 := rfl
@[simp] theorem kdS_own (c : Ct) : kdS (.own c) = 1 := rfl
@[simp] theorem kdS_pin (c : Ct) : kdS (.pin c) = 2 := rfl
theorem a_gSet (i : Nat) (d : D) (ρ : Env) : gSet i d ρ = if kd ρ i ≠ 2 then .ok (ρ.set i (.val d)) else .bad := rfl
theorem a_gTup (n : Nat) (gs : List D → Env → Res Env) (ds : List D) (ρ : Env) : gTupD n gs (.tup ds) ρ = if ds.length = n then gs ds ρ else .bad := rfl
theorem a_gLst (n : Nat) (gs : List D → Env → Res Env) (ds : List D) (ρ : Env) : gTupD n gs (.lst ds) ρ = if ds.length = n then gs ds ρ else .bad := rfl
theorem a_gsC (g : MG) (gs : List D → Env → Res Env) (d : D) (ds : List D) (ρ : Env) : gsCons g gs (d :: ds) ρ = (g d ρ).bind fun ρ' => gs ds ρ' := rfl
theorem a_gsN (ρ : Env) : gsNil [] ρ = .ok ρ := rfl
/-- a call of values alone -/
def noPin : Env → Bool
  | [] => true
  | .val _ :: r => noPin r
  | _ => false
theorem fin_val : ∀ {ss : Env}, noPin ss = true → ∀ ρ' : Env, fin ss ρ' = ss
  | [], _, _ => rfl
  | .val d :: r, h, ρ' => by
    show Slot.val d :: fin r ρ'.tail = _
    rw [fin_val (ss := r) h]
  | .un :: r, h, _ => by cases h
  | .own _ :: r, h, _ => by cases h
  | .pin _ :: r, h, _ => by cases h
theorem noPin_own : ∀ {ss : Env}, noPin ss = true → noOwn ss = true
  | [], _ => rfl
  | .val d :: r, h => by
    show noOwn r = true
    exact noPin_own (ss := r) h
  | .un :: r, h => by cases h
  | .own _ :: r, h => by cases h
  | .pin _ :: r, h => by cases h
theorem fun_v {n : Nat} {mb : MS} {ss : Env} {d : D} (hv : noPin ss = true) (h : Ev (mb (ss ++ List.replicate (n - ss.length) .un)) fun o => ∃ ρ', o = .ret d ρ') : mFun n mb ss = .ok (d, ss) := by
  obtain ⟨_, e, ρ', rfl⟩ := h
  rw [fun_ret (noPin_own hv) e, fin_val hv]
theorem fun_n {n : Nat} {mb : MS} {ss : Env} (hv : noPin ss = true) (h : Ev (mb (ss ++ List.replicate (n - ss.length) .un)) fun o => ∃ ρ', o = .nxt ρ') : mFun n mb ss = .ok (.non, ss) := by
  obtain ⟨_, e, ρ', rfl⟩ := h
  rw [fun_nxt (noPin_own hv) e, fin_val hv]
/-- a call with a pot ahead -/
theorem fun_p {n : Nat} {mb : MS} {c : Ct} {r : Env} {Q : D → Ct → Prop} (hv : noPin r = true) (h : Ev (mb (.pin c :: r ++ List.replicate (n - (r.length + 1)) .un)) fun o => ∃ d c' ρ', o = .ret d (.pin c' :: ρ') ∧ Q d c') :
    ∃ d c', mFun n mb (.pin c :: r) = .ok (d, .pin c' :: r) ∧ Q d c' := by
  obtain ⟨_, e, d, c', ρ', rfl, q⟩ := h
  refine ⟨d, c', ?_, q⟩
  rw [fun_ret (ss := .pin c :: r) (noPin_own (ss := r) hv) e]
  show Res.ok (d, Slot.pin c' :: fin r ρ') = _
  rw [fin_val hv]
/-! ### loops -/
theorem ev_for {mi : MI} {g : MG} {mb : MS} {ρ ρ0 : Env} {Q : Out → Prop} {ds : List D} (I : Nat → Env → Prop) (hi : mi ρ = .ok (ds, ρ0)) (h0 : I 0 ρ0)
    (step : ∀ (i : Nat) (d : D) (ρ : Env), ds[i]? = some d → I i ρ → Ev (g d ρ) fun ρ1 => Ev (mb ρ1) fun o => ∃ ρ2, o = .nxt ρ2 ∧ I (i + 1) ρ2)
    (fin : ∀ ρ', I ds.length ρ' → Q (.nxt ρ')) : Ev (mFor mi g mb ρ) Q := by
  obtain ⟨ρ', e, h⟩ := forGo_inv (g := g) (mb := mb) (ds := ds) I ρ0 h0 fun i d ρ hd hI => by
    obtain ⟨ρ1, e1, _, e2, ρ2, rfl, h2⟩ := step i d ρ hd hI
    exact ⟨ρ1, e1, ρ2, e2, h2⟩
  exact ⟨_, for_of hi e, fin ρ' h⟩
/-- a loop that may be left by a return -/
theorem ev_forR {mi : MI} {g : MG} {mb : MS} {ρ ρ0 : Env} {Q : Out → Prop} {ds : List D} (I : Nat → Env → Prop) (hi : mi ρ = .ok (ds, ρ0)) (h0 : I 0 ρ0)
    (step : ∀ (i : Nat) (d : D) (ρ : Env), ds[i]? = some d → I i ρ → Ev (g d ρ) fun ρ1 => Ev (mb ρ1) fun o => (∃ ρ2, o = .nxt ρ2 ∧ I (i + 1) ρ2) ∨ ∃ d' ρ2, o = .ret d' ρ2 ∧ Q (.ret d' ρ2))
    (fin : ∀ ρ', I ds.length ρ' → Q (.nxt ρ')) : Ev (mFor mi g mb ρ) Q := by
  have key : ∀ (r : List D) (k : Nat) (ρ : Env), (∀ i, r[i]? = ds[k + i]?) → k + r.length = ds.length → I k ρ → Ev (forGo g mb r ρ) Q := by
    intro r
    induction r with
    | nil => intro k ρ _ hk h; exact ⟨_, rfl, fin _ (by simp at hk; rw [← hk]; exact h)⟩
    | cons d r ih =>
      intro k ρ hr hk h
      obtain ⟨ρ1, e1, o, e2, h2⟩ := step k d ρ (by have := hr 0; simpa using this.symm) h
      unfold forGo
      rw [e1]
      simp only [bind_ok]
      rw [e2]
      simp only [bind_ok]
      rcases h2 with ⟨ρ2, rfl, h2⟩ | ⟨d', ρ2, rfl, h2⟩
      · exact ih (k + 1) ρ2 (fun i => by have := hr (i + 1); simpa [Nat.add_assoc, Nat.add_comm 1 i] using this) (by simp at hk; omega) h2
      · exact ⟨_, rfl, h2⟩
  obtain ⟨o, e, q⟩ := key ds 0 ρ0 (fun i => by simp) (by simp) h0
  exact ⟨o, by rw [a_mFor, hi]; exact e, q⟩
/-- comprehensions: all kept, some kept -/
theorem lc_map {α : Type} {vs : List Nat} {mi : MI} {g : MG} {me : ME} {ρ ρ0 : Env} (xs : List α) (e : α → D) (f : α → D) (hi : mi ρ = .ok (xs.map e, ρ0)) (hl : xs.length ≤ 1000000)
    (hk : (vs.all fun v => kd ρ0 v == 0) = true) (h : ∀ x ∈ xs, Ev (g (e x) (wipeE vs ρ0)) fun ρ1 => Ev (me ρ1) fun y => y.1 = f x ∧ wipeE vs y.2 = wipeE vs ρ0) :
    mLc vs mi g mYes me ρ = .ok (.lst (xs.map f), wipeE vs ρ0) := by
  rw [a_mLc, hi]
  simp only [bind_ok]
  rw [if_pos hk]
  have key : ∀ (xs : List α) (acc : List D), acc.length + xs.length ≤ 1000000 → (∀ x ∈ xs, Ev (g (e x) (wipeE vs ρ0)) fun ρ1 => Ev (me ρ1) fun y => y.1 = f x ∧ wipeE vs y.2 = wipeE vs ρ0) → lcGo vs g mYes me (xs.map e) acc (wipeE vs ρ0) = .ok (acc ++ xs.map f, wipeE vs ρ0) := by
    intro xs
    induction xs with
    | nil => intro acc _ _; simp [lcGo]
    | cons x xs ih =>
      intro acc hl h
      obtain ⟨ρ1, e1, y, e2, e3, e4⟩ := h x (List.mem_cons_self ..)
      simp only [List.length_cons] at hl
      rw [List.map_cons]
      unfold lcGo
      rw [e1]
      simp only [ne_ok, bind_ok, a_mYes, if_true]
      rw [e2]
      simp only [ne_ok, bind_ok]
      rw [if_pos (size_lt (by omega)), e4, e3, ih _ (by simp; omega) fun x hx => h x (List.mem_cons_of_mem _ hx)]
      simp
  rw [key xs [] (by simpa using hl) h]
  rfl
theorem lc_fmap {α : Type} {vs : List Nat} {mi : MI} {g : MG} {mt : MT} {me : ME} {ρ ρ0 : Env} (xs : List α) (e : α → D) (p : α → Bool) (f : α → D) (hi : mi ρ = .ok (xs.map e, ρ0)) (hl : xs.length ≤ 1000000)
    (hk : (vs.all fun v => kd ρ0 v == 0) = true) (h : ∀ x ∈ xs, Ev (g (e x) (wipeE vs ρ0)) fun ρ1 => Ev (mt ρ1) fun b => b.1 = p x ∧ (if p x = true then Ev (me b.2) fun y => y.1 = f x ∧ wipeE vs y.2 = wipeE vs ρ0 else wipeE vs b.2 = wipeE vs ρ0)) :
    mLc vs mi g mt me ρ = .ok (.lst ((xs.filter p).map f), wipeE vs ρ0) := by
  rw [a_mLc, hi]
  simp only [bind_ok]
  rw [if_pos hk]
  have key : ∀ (xs : List α) (acc : List D), acc.length + xs.length ≤ 1000000 → (∀ x ∈ xs, Ev (g (e x) (wipeE vs ρ0)) fun ρ1 => Ev (mt ρ1) fun b => b.1 = p x ∧ (if p x = true then Ev (me b.2) fun y => y.1 = f x ∧ wipeE vs y.2 = wipeE vs ρ0 else wipeE vs b.2 = wipeE vs ρ0)) → lcGo vs g mt me (xs.map e) acc (wipeE vs ρ0) = .ok (acc ++ (xs.filter p).map f, wipeE vs ρ0) := by
    intro xs
    induction xs with
    | nil => intro acc _ _; simp [lcGo]
    | cons x xs ih =>
      intro acc hl h
      obtain ⟨ρ1, e1, b, e2, e3, e4⟩ := h x (List.mem_cons_self ..)
      simp only [List.length_cons] at hl
      rw [List.map_cons]
      unfold lcGo
      rw [e1]
      simp only [ne_ok, bind_ok]
      rw [e2]
      simp only [ne_ok, bind_ok, e3]
      by_cases hp : p x = true
      · rw [if_pos hp] at e4
        rw [if_pos hp]
        obtain ⟨y, e5, e6, e7⟩ := e4
        rw [e5]
        simp only [ne_ok, bind_ok]
        rw [if_pos (size_lt (by omega)), e6, e7, ih _ (by simp; omega) fun x hx => h x (List.mem_cons_of_mem _ hx)]
        simp [List.filter_cons, hp]
      · rw [if_neg hp] at e4
        rw [if_neg hp, e4, ih _ (by omega) fun x hx => h x (List.mem_cons_of_mem _ hx)]
        simp [List.filter_cons, hp]
  rw [key xs [] (by simpa using hl) h]
  rfl
/-- a comprehension that changes the frame -/
theorem ev_lc {vs : List Nat} {mi : MI} {g : MG} {me : ME} {ρ ρ0 : Env} {Q : Ct × Env → Prop} {ds : List D} (I : Nat → List D → Env → Prop) (hi : mi ρ = .ok (ds, ρ0)) (hl : ds.length ≤ 1000000)
    (hk : (vs.all fun v => kd ρ0 v == 0) = true) (h0 : I 0 [] (wipeE vs ρ0))
    (step : ∀ (i : Nat) (d : D) (acc : List D) (ρ : Env), ds[i]? = some d → acc.length = i → I i acc ρ → Ev (g d ρ) fun ρ1 => Ev (me ρ1) fun y => I (i + 1) (acc ++ [y.1]) (wipeE vs y.2))
    (fin : ∀ ys ρ', ys.length = ds.length → I ds.length ys ρ' → Q (.lst ys, ρ')) : Ev (mLc vs mi g mYes me ρ) Q := by
  obtain ⟨ys, ρ', e, hy, h⟩ := lcGo_inv (vs := vs) (g := g) (me := me) I ds hl (wipeE vs ρ0) h0 fun i d acc ρ hd ha hI => by
    obtain ⟨ρ1, e1, y, e2, h2⟩ := step i d acc ρ hd ha hI
    exact ⟨ρ1, e1, y.1, y.2, e2, h2⟩
  refine ⟨(.lst ys, ρ'), ?_, fin ys ρ' hy h⟩
  rw [a_mLc, hi]
  simp only [bind_ok]
  rw [if_pos hk, e]
  rfl
@[simp] theorem a_mCatL (ma mb : ME) (ρ : Env) : mCatL ma mb ρ = (ma ρ).bind fun x => (mb x.2).bind fun y => (lft (catD x.1 y.1)).bind fun ds => .ok (.lst ds, y.2) := rfl
/-! ### draws -/
theorem ev_take {n : Nat} {pot : List D} {r : Env} {ma : MA} {u : Int} {Q : D × Env → Prop} (h : PotOk n pot) (hm : ma (.pin (.lst pot) :: r) = .ok ([.int u], .pin (.lst pot) :: r)) (hu : 0 < u) (hd : u < 2 ^ 200) (hn : n < 2 ^ 60)
    (k : ∀ x pot', 0 ≤ x → x < u → PotOk (n + 1) pot' → Q (.int x, .pin (.lst pot') :: r)) : Ev (mCallM Mi.m__law_take 0 ma (.pin (.lst pot) :: r)) Q := by
  obtain ⟨x, pot', e, x0, x1, hp⟩ := take_ok h hn hu (sd_small hu hd)
  refine Ev.of (a := (.int x, .pin (.lst pot') :: r)) ?_ (k x pot' x0 x1 hp)
  simp [hm, e]
/-- a call of a def with a pot ahead -/
theorem ev_callM {F : ME} {c : Ct} {r : Env} {ma : MA} {ds : List D} {Q : D × Env → Prop} (hm : ma (.pin c :: r) = .ok (ds, .pin c :: r)) (h : Ev (F (.pin c :: ds.map .val)) fun y => ∃ c' r', y.2 = .pin c' :: r' ∧ Q (y.1, .pin c' :: r)) : Ev (mCallM F 0 ma (.pin c :: r)) Q := by
  obtain ⟨⟨d, ρ⟩, e, c', r', rfl, q⟩ := h
  refine Ev.of (a := (d, .pin c' :: r)) ?_ q
  simp [hm, e]
/-! ### sizes -/
theorem QB.add' {a b : Nat} {p q : Rat} (h : QB a p) (k : QB b q) : QB (a + b + 1) (p + q) := by
  rw [← divInt_add p q]
  have h1 := h.num; have h2 := h.den; have k1 := k.num; have k2 := k.den
  have hd : (p.den : Int) ≠ 0 := by have := p.den_nz; omega
  have kd : (q.den : Int) ≠ 0 := by have := q.den_nz; omega
  refine divInt_qb (Int.mul_ne_zero hd kd) ?_ ?_
  · have e1 : (p.num * q.den).natAbs < 2 ^ (a + b) := by
      rw [Int.natAbs_mul, Nat.pow_add]; exact Nat.mul_lt_mul'' h1 k2
    have e2 : (q.num * p.den).natAbs < 2 ^ (a + b) := by
      rw [Int.natAbs_mul, Nat.pow_add, Nat.mul_comm]; exact Nat.mul_lt_mul'' h2 k1
    have := Int.natAbs_add_le (p.num * q.den) (q.num * p.den)
    rw [Nat.pow_succ]
    omega
  · rw [Int.natAbs_mul, Nat.pow_succ, Nat.pow_add]
    have : p.den * q.den < 2 ^ a * 2 ^ b := Nat.mul_lt_mul'' h2 k2
    simp only [Int.natAbs_natCast]
    omega
theorem QB.neg' {a : Nat} {p : Rat} (h : QB a p) : QB a (-p) := ⟨by rw [Rat.neg_num, Int.natAbs_neg]; exact h.num, by rw [Rat.neg_den]; exact h.den⟩
theorem QB.sub' {a b : Nat} {p q : Rat} (h : QB a p) (k : QB b q) : QB (a + b + 1) (p - q) := by
  rw [Rat.sub_eq_add_neg]; exact h.add' k.neg'
theorem divInt_mulE (p q : Rat) : Rat.divInt (p.num * q.num) (p.den * q.den) = p * q := by
  have := Rat.divInt_mul_divInt p.num q.num (d₁ := p.den) (d₂ := q.den)
  rw [← this, Rat.num_divInt_den, Rat.num_divInt_den]
theorem QB.mul' {a b : Nat} {p q : Rat} (h : QB a p) (k : QB b q) : QB (a + b) (p * q) := by
  rw [← divInt_mulE p q]
  have h1 := h.num; have h2 := h.den; have k1 := k.num; have k2 := k.den
  have hd : (p.den : Int) ≠ 0 := by have := p.den_nz; omega
  have kd : (q.den : Int) ≠ 0 := by have := q.den_nz; omega
  refine divInt_qb (Int.mul_ne_zero hd kd) ?_ ?_
  · rw [Int.natAbs_mul, Nat.pow_add]; exact Nat.mul_lt_mul'' h1 k1
  · rw [Int.natAbs_mul, Nat.pow_add]; exact Nat.mul_lt_mul'' h2 k2
theorem one_lt_pow {k : Nat} (h1 : 0 < k) : 1 < 2 ^ k := Nat.lt_of_lt_of_le (by decide : 1 < 2 ^ 1) (Nat.pow_le_pow_right (by decide) h1)
theorem QB.int' {i : Int} {k : Nat} (h : i.natAbs < 2 ^ k) (h1 : 0 < k := by decide) : QB k (i : Rat) := ⟨by simpa using h, one_lt_pow h1⟩
theorem QB.zero' {k : Nat} (h1 : 0 < k := by decide) : QB k 0 := ⟨Nat.pow_pos (by decide), one_lt_pow h1⟩
theorem qb_fold {k : Nat} : ∀ (qs : List Rat) (a : Rat) (n : Nat), QB (n * (k + 1) + 1) a → (∀ q ∈ qs, QB k q) → QB ((n + qs.length) * (k + 1) + 1) (qs.foldl (· + ·) a)
  | [], a, n, h, _ => by simpa using h
  | q :: qs, a, n, h, hq => by
    have h1 := h.add' (hq q (List.mem_cons_self ..))
    have h2 := qb_fold qs (a + q) (n + 1) (qb_mono h1 (by rw [Nat.add_mul]; omega)) fun x hx => hq x (List.mem_cons_of_mem _ hx)
    rw [List.foldl_cons]
    refine qb_mono h2 ?_
    simp only [List.length_cons]
    have : n + 1 + qs.length = n + (qs.length + 1) := by omega
    rw [this]
    exact Nat.le_refl _
theorem qs_of {qs : List Rat} {k n : Nat} (h : ∀ q ∈ qs, QB k q) (hl : qs.length ≤ n) (hn : n * (k + 1) + 1 ≤ 4000) (hn0 : 0 < n := by decide) : QS qs ∧ QB (n * (k + 1) + 1) (qsum qs) := by
  have key : ∀ l : List Rat, (∀ q ∈ l, QB k q) → l.length ≤ n → QB (n * (k + 1) + 1) (qsum l) := fun l h hl => by
    have := qb_fold l 0 0 (QB.zero' (by omega)) h
    refine qb_mono this ?_
    have := Nat.mul_le_mul_right (k + 1) hl
    simp only [Nat.zero_add] at *
    omega
  have k1 : k + 1 ≤ n * (k + 1) := Nat.le_mul_of_pos_left _ hn0
  refine ⟨⟨fun q hq => qb_mono (h q hq) (by omega), fun i => ?_⟩, key qs h hl⟩
  refine qb_mono (key (qs.take i) (fun q hq => h q (List.mem_of_mem_take hq)) (by rw [List.length_take]; omega)) hn
theorem row_qb {lo : Int × Int} {rows : List Row} (h : RowsOk lo rows) : ∀ r ∈ rows, QB 20 r.q := fun r hr => by
  obtain ⟨W, h1, h2, h3⟩ := h.cd
  obtain ⟨w, h4, h5, h6⟩ := h3 r hr
  rw [h6]
  exact divInt_qb (by omega) (by omega) (by omega)
end DF
namespace DF
open PySem PySem.Spec L2 Evl TL
/-- sums over lists -/
def ls {α : Type} (f : α → Rat) : List α → Rat
  | [] => 0
  | a :: l => f a + ls f l
theorem ls_append {α : Type} (f : α → Rat) (m : List α) : ∀ l : List α, ls f (l ++ m) = ls f l + ls f m
  | [] => (Rat.zero_add _).symm
  | a :: l => by simp only [List.cons_append, ls, ls_append f m l, Rat.add_assoc]
theorem ls_zero {α : Type} {f : α → Rat} : ∀ {l : List α}, (∀ a ∈ l, f a = 0) → ls f l = 0
  | [], _ => rfl
  | a :: l, h => by rw [ls, h a (List.mem_cons_self ..), ls_zero fun x hx => h x (List.mem_cons_of_mem _ hx), Rat.zero_add]
theorem ls_congr {α : Type} {f g : α → Rat} : ∀ {l : List α}, (∀ a ∈ l, f a = g a) → ls f l = ls g l
  | [], _ => rfl
  | a :: l, h => by rw [ls, ls, h a (List.mem_cons_self ..), ls_congr fun x hx => h x (List.mem_cons_of_mem _ hx)]
theorem ls_mul {α : Type} (f : α → Rat) (c : Rat) : ∀ l : List α, ls f l * c = ls (fun a => f a * c) l
  | [] => Rat.zero_mul _
  | a :: l => by rw [ls, ls, Rat.add_mul, ls_mul f c l]
theorem ls_flat {α β : Type} (f : β → Rat) (g : α → List β) : ∀ l : List α, ls f (l.flatMap g) = ls (fun a => ls f (g a)) l
  | [] => rfl
  | a :: l => by rw [List.flatMap_cons, ls_append, ls, ls_flat f g l]
theorem foldl_ls : ∀ (qs : List Rat) (a : Rat), qs.foldl (· + ·) a = a + ls (fun q => q) qs
  | [], a => (Rat.add_zero a).symm
  | q :: qs, a => by rw [List.foldl_cons, foldl_ls qs, ls, Rat.add_assoc]
theorem qsum_ls (qs : List Rat) : qsum qs = ls (fun q => q) qs := by unfold qsum; rw [foldl_ls, Rat.zero_add]
theorem ls_add {α : Type} (f g : α → Rat) : ∀ l : List α, ls (fun a => f a + g a) l = ls f l + ls g l
  | [] => (Rat.zero_add 0).symm
  | a :: l => by simp only [ls, ls_add f g l]; grind
theorem ls_map {α β : Type} (f : β → Rat) (g : α → β) : ∀ l : List α, ls f (l.map g) = ls (fun a => f (g a)) l
  | [] => rfl
  | a :: l => by rw [List.map_cons, ls, ls, ls_map f g l]
theorem ls_cmul {α : Type} (f : α → Rat) (c : Rat) : ∀ l : List α, ls (fun a => c * f a) l = c * ls f l
  | [] => (Rat.mul_zero c).symm
  | a :: l => by simp only [ls, ls_cmul f c l]; grind
theorem ls_sub {α : Type} (f g : α → Rat) : ∀ l : List α, ls (fun a => f a - g a) l = ls f l - ls g l
  | [] => by simp [ls]; grind
  | a :: l => by simp only [ls, ls_sub f g l]; grind
/-- one key alone -/
theorem ls_key {κ : Type} [DecidableEq κ] {α : Type} (key : α → κ) (f : α → Rat) (k : κ) : ∀ {l : List α} {a : α}, (l.map key).Nodup → a ∈ l → key a = k → ls (fun b => if key b = k then f b else 0) l = f a
  | [], _, _, h, _ => by cases h
  | b :: l, a, nd, h, hk => by
    rw [List.map_cons] at nd
    obtain ⟨n1, n2⟩ := List.nodup_cons.mp nd
    rw [ls]
    rcases List.mem_cons.mp h with e | h
    · subst e
      rw [if_pos hk, ls_zero (fun x hx => if_neg (fun z => n1 (by rw [hk, ← z]; exact List.mem_map_of_mem hx))), Rat.add_zero]
    · have : ¬ key b = k := fun z => n1 (by rw [z, ← hk]; exact List.mem_map_of_mem h)
      rw [if_neg this, Rat.zero_add, ls_key key f k n2 h hk]
theorem ls_nokey {κ : Type} [DecidableEq κ] {α : Type} (key : α → κ) (f : α → Rat) (k : κ) {l : List α} (h : k ∉ l.map key) : ls (fun b => if key b = k then f b else 0) l = 0 :=
  ls_zero fun x hx => if_neg fun z => h (by rw [← z]; exact List.mem_map_of_mem hx)
end DF
namespace DF
open PySem PySem.Spec L2 Evl TL
/-! ### more of fractions -/
theorem divInt_sub (p q : Rat) : Rat.divInt (p.num * q.den - q.num * p.den) (p.den * q.den) = p - q := by
  have hp : (p.den : Int) ≠ 0 := by exact_mod_cast p.den_nz
  have hq : (q.den : Int) ≠ 0 := by exact_mod_cast q.den_nz
  have := Rat.divInt_sub_divInt p.num q.num (d₁ := p.den) (d₂ := q.den) hp hq
  rw [← this, Rat.num_divInt_den, Rat.num_divInt_den]
theorem divInt_mul (p q : Rat) : Rat.divInt (p.num * q.num) (p.den * q.den) = p * q := by
  have := Rat.divInt_mul_divInt p.num q.num (d₁ := p.den) (d₂ := q.den)
  rw [← this, Rat.num_divInt_den, Rat.num_divInt_den]
theorem m_less_ok {p q : Rat} (hp : QB 4000 p) (hq : QB 4000 q) : Mi.m_less [.val (dQ p), .val (dQ q)] = .ok (dQ (p - q), [.val (dQ p), .val (dQ q)]) := by
  have b1 := hp.smd
  have b2 := hq.smd
  have b3 := hp.smn
  have b4 := hq.smn
  have hd := hp.sd hq
  refine fun_ret (ρ' := [.val (dQ p), .val (dQ q)]) rfl ?_
  unfold Mi.M_less
  simp [mVar, dQ, ix0, ix1, opMul_ok, b1, b2, b3, b4, opSub, m_ratio_ok hd]
  rw [divInt_sub]
  exact ⟨rfl, rfl⟩
theorem m_times_ok {p q : Rat} (hp : QB 4000 p) (hq : QB 4000 q) : Mi.m_times [.val (dQ p), .val (dQ q)] = .ok (dQ (p * q), [.val (dQ p), .val (dQ q)]) := by
  have b1 := hp.smd
  have b2 := hq.smd
  have b3 := hp.smn
  have b4 := hq.smn
  have hd := hp.sd hq
  refine fun_ret (ρ' := [.val (dQ p), .val (dQ q)]) rfl ?_
  unfold Mi.M_times
  simp [mVar, dQ, ix0, ix1, opMul_ok, b1, b2, b3, b4, m_ratio_ok hd]
  rw [divInt_mul]
  exact ⟨rfl, rfl⟩
theorem m__law_frac_less_ok {p q : Rat} (hp : QB 4000 p) (hq : QB 4000 q) : Mi.m__law_frac_less [.val (dQ p), .val (dQ q)] = .ok (dQ (p - q), [.val (dQ p), .val (dQ q)]) := by
  have b1 := hp.smd
  have b2 := hq.smd
  have b3 := hp.smn
  have b4 := hq.smn
  have hd := hp.sd hq
  refine fun_ret (ρ' := [.val (dQ p), .val (dQ q)]) rfl ?_
  unfold Mi.M__law_frac_less
  simp [mVar, dQ, ix0, ix1, opMul_ok, b1, b2, b3, b4, opSub, m__law_frac_ok hd]
  rw [divInt_sub]
  exact ⟨rfl, rfl⟩
theorem m__law_frac_times_ok {p q : Rat} (hp : QB 4000 p) (hq : QB 4000 q) : Mi.m__law_frac_times [.val (dQ p), .val (dQ q)] = .ok (dQ (p * q), [.val (dQ p), .val (dQ q)]) := by
  have b1 := hp.smd
  have b2 := hq.smd
  have b3 := hp.smn
  have b4 := hq.smn
  have hd := hp.sd hq
  refine fun_ret (ρ' := [.val (dQ p), .val (dQ q)]) rfl ?_
  unfold Mi.M__law_frac_times
  simp [mVar, dQ, ix0, ix1, opMul_ok, b1, b2, b3, b4, m__law_frac_ok hd]
  rw [divInt_mul]
  exact ⟨rfl, rfl⟩
/-- q is n/D with n at most B -/
def CD (D B : Nat) (q : Rat) : Prop := ∃ n : Int, q = Rat.divInt n D ∧ n.natAbs ≤ B
theorem CD.qb {D B k : Nat} {q : Rat} (h : CD D B q) (hD : 0 < D) (hk : D < 2 ^ k) (hB : B < 2 ^ k) : QB k q := by
  obtain ⟨n, rfl, hn⟩ := h
  exact divInt_qb (by omega) (Nat.lt_of_le_of_lt hn hB) (by simpa using hk)
theorem CD.add {D B C : Nat} {p q : Rat} (hD : 0 < D) (h : CD D B p) (k : CD D C q) : CD D (B + C) (p + q) := by
  obtain ⟨n, rfl, hn⟩ := h
  obtain ⟨m, rfl, hm⟩ := k
  exact ⟨n + m, divInt_add_same (by omega), by omega⟩
theorem CD.mul {D E B C : Nat} {p q : Rat} (h : CD D B p) (k : CD E C q) : CD (D * E) (B * C) (p * q) := by
  obtain ⟨n, rfl, hn⟩ := h
  obtain ⟨m, rfl, hm⟩ := k
  refine ⟨n * m, by rw [Rat.divInt_mul_divInt, Int.natCast_mul], ?_⟩
  rw [Int.natAbs_mul]
  exact Nat.mul_le_mul hn hm
theorem CD.mono {D B C : Nat} {q : Rat} (h : CD D B q) (hB : B ≤ C) : CD D C q := by
  obtain ⟨n, e, hn⟩ := h
  exact ⟨n, e, Nat.le_trans hn hB⟩
theorem CD.widen {D B E : Nat} {q : Rat} (hE : 0 < E) (hD : 0 < D) (h : CD D B q) : CD (D * E) (B * E) q := by
  obtain ⟨n, rfl, hn⟩ := h
  refine ⟨n * E, ?_, ?_⟩
  · rw [Rat.divInt_eq_divInt_iff (by omega) (by have := Nat.mul_pos hD hE; omega)]
    rw [Int.natCast_mul]
    grind
  · rw [Int.natAbs_mul]
    exact Nat.mul_le_mul hn (by simp)
end DF
namespace DF
open PySem PySem.Spec L2 Evl TL
def bkO (rs : Nat → List Row) : D := .obj 0 [regsT rs, .str (bookText rs)]
theorem idx_ok {k : Nat} (hk : k < 4) : idxOf ["inside", "first", "second", "none"] (regName k) = some k := four (P := fun k => idxOf ["inside", "first", "second", "none"] (regName k) = some k) hk rfl rfl rfl rfl
theorem slot0 (rs : Nat → List Row) : opSlot 0 0 (bkO rs) = some (regsT rs) := rfl
theorem regsT_ix {rs : Nat → List Row} {k : Nat} (hk : k < 4) : opIx (regsT rs) (.int k) = some (.tup (rowsD (rs k))) := four (P := fun k => opIx (regsT rs) (.int k) = some (.tup (rowsD (rs k)))) hk rfl rfl rfl rfl
theorem region_steps_ok {rs : Nat → List Row} {k : Nat} (hk : k < 4) : Mi.m_region_steps [.val (bkO rs), .val (.str (regName k))] = .ok (.tup (rowsD (rs k)), [.val (bkO rs), .val (.str (regName k))]) := by
  refine fun_ret (ρ' := [.val (bkO rs), .val (.str (regName k))]) rfl ?_
  unfold Mi.M_region_steps
  simp only [a_mRet, a_mBin, a_mUn, a_mVar0, bind_ok, slot0, lft_some, a_mIdx, mVar, List.getElem?_cons_succ, List.getElem?_cons_zero, idx_ok hk, regsT_ix hk, List.cons_append, List.nil_append]
  rfl
/-! ### chances -/
abbrev atP (rows : List Row) (p : Int × Int) : List Row := rows.filter fun r => decide ((r.i, r.j) = p)
def chQ (rows : List Row) (p : Int × Int) : Rat := qsum ((atP rows p).map (·.q))
theorem opEq_pair (p q : Int × Int) : opEq (pD p) (pD q) = some (.bl (decide (p = q))) := by
  have g : ∀ p : Int × Int, Good 1 (pD p) := fun p => Good.tup (n := 0) (fun d hd => by
    rcases List.mem_cons.mp hd with e | hd
    · rw [e]; exact Good.int _
    · rw [List.mem_singleton.mp hd]; exact Good.int _)
  unfold opEq
  by_cases h : p = q
  · subst h
    rw [eqD_same (n := 1) (by decide) (g p), decide_eq_true rfl]
    rfl
  · rw [eqD_diff (n := 1) (by decide) (g p) (g q) (fun z => h (pD_inj z)), decide_eq_false h]
    rfl
def fCh (p : Int × Int) (d : D) : Option D := match d with
  | .tup [.int i, .int j, c] => if (i, j) = p then some c else none
  | _ => none
theorem fCh_rows (rows : List Row) (p : Int × Int) : (rowsD rows).filterMap (fCh p) = ((atP rows p).map (·.q)).map dQ := by
  induction rows with
  | nil => rfl
  | cons r rows ih =>
    have e : fCh p (rowD r) = if (r.i, r.j) = p then some (dQ r.q) else none := rfl
    simp only [rowsD, List.map_cons, List.filterMap_cons, e]
    by_cases h : (r.i, r.j) = p
    · simp only [h, if_true, atP, List.filter_cons, decide_true, List.map_cons]
      exact congrArg _ ih
    · simp only [h, if_false, atP, List.filter_cons, decide_false, Bool.false_eq_true]
      exact ih
theorem dQ_inj {p q : Rat} (h : dQ p = dQ q) : p = q := by
  have h1 := D.tup.inj h
  simp only [List.cons.injEq, D.int.injEq, and_true] at h1
  exact Rat.ext h1.1 (by omega)
theorem opNe_dQ (p q : Rat) : opNe (dQ p) (dQ q) = some (.bl (!@decide (p = q) (Classical.propDecidable _))) := by
  unfold opNe
  by_cases h : p = q
  · subst h
    rw [eqD_same (n := 1) (by decide) (dQ_good p)]
    simp
  · rw [eqD_diff (n := 1) (by decide) (dQ_good p) (dQ_good q) (fun z => h (dQ_inj z))]
    simp [h]
theorem opEq_dQ (p q : Rat) : opEq (dQ p) (dQ q) = some (.bl (@decide (p = q) (Classical.propDecidable _))) := by
  unfold opEq
  by_cases h : p = q
  · subst h
    rw [eqD_same (n := 1) (by decide) (dQ_good p)]
    simp
  · rw [eqD_diff (n := 1) (by decide) (dQ_good p) (dQ_good q) (fun z => h (dQ_inj z))]
    simp [h]
end DF
namespace DF
open PySem PySem.Spec L2 Evl TL
/-! ### books written -/
@[simp] theorem a_mFS (ms : List ME) (ρ : Env) : mFS ms ρ = (mJs ms Str.empty ρ).bind fun x => .ok (.str x.1, x.2) := rfl
@[simp] theorem a_mJs0 (acc : Str) (ρ : Env) : mJs [] acc ρ = .ok (acc, ρ) := rfl
@[simp] theorem a_mJs1 (m : ME) (ms : List ME) (acc : Str) (ρ : Env) : mJs (m :: ms) acc ρ = (m ρ).bind fun x => (lft (asStr x.1)).bind fun y => if (acc ++ y).length ≤ sizeLine then mJs ms (acc ++ y) x.2 else .bad := rfl
@[simp] theorem a_mStar (ma : ME) (mr : MA) (ρ : Env) : mStar ma mr ρ = (ma ρ).bind fun x => (lft (seqOf x.1)).bind fun xs => (mr x.2).bind fun y => .ok (xs ++ y.1, y.2) := rfl
@[simp] theorem asStr_str (x : Str) : asStr (.str x) = some x := rfl
theorem fmt_num {n : Nat} (h : n < 10 ^ 9) : fFmt (.int (n : Int)) = some (.str (numS n)) := by
  have h1 : ((n : Int).natAbs).log2 < 1920 := log2_le (Nat.lt_of_lt_of_le (show n < 2 ^ 30 by omega) (Nat.pow_le_pow_right (by decide) (by decide : 30 ≤ 1920))) (by decide)
  simp only [fFmt]
  rw [if_pos h1]
  rfl
theorem fmt_str {x : Str} (h : x.length ≤ 1000000) : fFmt (.str x) = some (.str x) := by
  simp only [fFmt]
  rw [if_pos (size_le h)]
theorem empty_app (x : Str) : Str.empty ++ x = x := by
  have h : tl (Str.empty ++ x) = tl x := by rw [tl_append]; rfl
  exact ext_tl h
theorem fs_step {i : Int} (hi : -1 ≤ i ∧ i ≤ 3) : fStr [.int i] = some (.str (stepS i)) := by
  simp only [fStr]
  rw [if_pos (log2_le (k := 1920) (Nat.lt_of_lt_of_le (show i.natAbs < 2 ^ 2 by omega) (Nat.pow_le_pow_right (n := 2) (by decide) (by decide : 2 ≤ 1920))) (by decide))]
  rfl
/-- rows in a list or a tuple -/
inductive Seqs : D → List D → Prop
  | lst (ds : List D) : Seqs (.lst ds) ds
  | tup (ds : List D) : Seqs (.tup ds) ds
theorem Seqs.items {S : D} {ds : List D} (h : Seqs S ds) : itemsOf S = some ds := by cases h <;> rfl
theorem segs_zip (rs : Nat → List Row) (Ss : Nat → D) : zipD [.str "inside", .str "first", .str "second", .str "none"] [Ss 0, Ss 1, Ss 2, Ss 3] = [.tup [.str (regName 0), Ss 0], .tup [.str (regName 1), Ss 1], .tup [.str (regName 2), Ss 2], .tup [.str (regName 3), Ss 3]] := rfl
theorem four_get {f : Nat → D} {i : Nat} {d : D} (h : [f 0, f 1, f 2, f 3][i]? = some d) : i < 4 ∧ d = f i := by
  obtain ⟨hi, e⟩ := List.getElem?_eq_some_iff.mp h
  have hi4 : i < 4 := hi
  refine ⟨hi4, ?_⟩
  rw [← e]
  exact four (P := fun i => ∀ h : i < 4, [f 0, f 1, f 2, f 3][i] = f i) hi4 (fun _ => rfl) (fun _ => rfl) (fun _ => rfl) (fun _ => rfl) hi4
theorem new_book {rs : Nat → List Row} (hb : BOk rs) {ρ : Env} {m : ME} (hm : m ρ = .ok (.str (bookText rs), ρ)) : mNew 0 Mi.R_Book.fn (mCons m mNil) ρ = .ok (bkO rs, ρ) := by
  unfold mNew
  simp only [a_mCons, hm, bind_ok, a_mNil, book_ok hb, lft_some]
  rfl
theorem join_text {rs : Nat → List Row} (hb : BOk rs) : opJoin nlS (.lst (((bookW rs).map lineOf).map .str)) = some (.str (bookText rs)) := by
  have hw := bookW_ok hb
  have hl := bookW_len hb
  exact join_op (sep := nlS) (ws := (bookW rs).map lineOf) (b := 84) (fun w h => by
    obtain ⟨ws, hws, rfl⟩ := List.mem_map.mp h
    exact line_len (hw.wl4 ws hws) (hw.w20 ws hws)) (by decide) (by decide +kernel) (by simp; omega)
end DF
namespace DF
open PySem PySem.Spec L2 Evl TL
/-! ### a book written -/
theorem ratio_word_ok {q : Rat} (h : PQ q) : Mi.m_ratio_word [.val (dQ q)] = .ok (.str (fracS q), [.val (dQ q)]) := by
  have q0 : opIx (dQ q) (.int 0) = some (.int q.num) := rfl
  have q1 : opIx (dQ q) (.int 1) = some (.int q.den) := rfl
  have hp := h.pos
  have hn := h.num
  have hd := h.den
  have e0 : q.num = (q.num.toNat : Int) := by omega
  have f0 : fFmt (.int q.num) = some (.str (numS q.num.toNat)) := by rw [e0]; exact fmt_num (by omega)
  have f1 : fFmt (.int q.den) = some (.str (numS q.den)) := fmt_num (by omega)
  have f2 : fFmt (.str "/") = some (.str "/") := fmt_str (by decide +kernel)
  have l1 := (numS_len (n := q.num.toNat) (by omega)).2
  have hl := fracS_len h
  refine fun_v rfl ?_
  unfold Mi.M_ratio_word
  by_cases hq : q.den = 1
  · simp [-a_mFor, -a_mLc, -a_mWhile, -a_mCallM, mVar, a_gSet, a_gTup, a_gLst, a_gsC, a_gsN, asBl, ctOf, setCt, ctL, ctLen, frz, itemsOf, Ct.toD, size_le, wipeE, q0, q1, opEq_int, hq, f0, fracS]
  · have hq' : ¬ (q.den : Int) = 1 := by omega
    have ef : fracS q = numS q.num.toNat ++ "/" ++ numS q.den := by unfold fracS; rw [if_neg hq]
    have s1 : (numS q.num.toNat).length ≤ sizeLine := size_le (by omega)
    have s3 : (numS q.num.toNat ++ "/" ++ numS q.den).length ≤ sizeLine := by rw [← ef]; exact size_le (by omega)
    have s2 : (numS q.num.toNat ++ "/").length ≤ sizeLine := by
      have h1 : (tl (Str.ofString "/")).length = 1 := by decide +kernel
      refine size_le ?_
      rw [len_tl] at l1
      rw [len_tl, tl_append, List.length_append, h1]
      omega
    simp [-a_mFor, -a_mLc, -a_mWhile, -a_mCallM, mVar, a_gSet, a_gTup, a_gLst, a_gsC, a_gsN, asBl, ctOf, setCt, ctL, ctLen, frz, itemsOf, Ct.toD, size_le, wipeE, q0, q1, opEq_int, hq', f0, f1, f2, empty_app, s1, s2, s3, ef]
theorem region_rows_ok {k : Nat} {rows : List Row} (hr : RowsOk (regLow k) rows) {S : D} (hS : Seqs S (rowsD rows)) :
    Mi.m_region_rows [.val (.str (regName k)), .val S] = .ok (.lst (((segW k rows).map lineOf).map .str), [.val (.str (regName k)), .val S]) := by
  have hlo := regLow_rng k
  have hlen := hr.len
  refine fun_v rfl ?_
  unfold Mi.M_region_rows
  simp [-a_mFor, -a_mLc, -a_mWhile, -a_mCallM, mVar, a_gSet, a_gTup, a_gLst, a_gsC, a_gsN, asBl, ctOf, setCt, ctL, ctLen, frz, itemsOf, Ct.toD, size_le, wipeE]
  rw [lc_map rows rowD (fun r => .str (lineOf (wordsOf r))) (ρ0 := [.val (.str (regName k)), .val S, .un, .un, .un, .un]) (by simp [mVar, hS.items]) (by omega) (by rfl) (fun r hr' => by
    have hrng := hr.rng r hr'
    have hq := hr.pq r hr'
    have hjo : opJoin spS (.lst [.str "step", .str (stepS r.i), .str (stepS r.j), .str (fracS r.q)]) = some (.str (lineOf (wordsOf r))) := join_op (sep := spS) (ws := wordsOf r) (b := 20) (words_len (by omega) (by omega) hq) (by decide) (by decide +kernel) (by simp [wordsOf])
    have hw := ratio_word_ok hq
    unfold rowD
    simp [-a_mFor, -a_mLc, -a_mWhile, -a_mCallM, mVar, a_gSet, a_gTup, a_gLst, a_gsC, a_gsN, asBl, ctOf, setCt, ctL, ctLen, frz, itemsOf, Ct.toD, size_le, wipeE, fs_step (i := r.i) (by omega), fs_step (i := r.j) (by omega), hw, hjo])]
  have hsz : rows.length + 1 ≤ sizeLine := size_le (by omega)
  have hone : lineOf [regName k] = regName k := line_one _
  simp [-a_mFor, -a_mLc, -a_mWhile, -a_mCallM, mVar, a_gSet, a_gTup, a_gLst, a_gsC, a_gsN, asBl, ctOf, setCt, ctL, ctLen, frz, itemsOf, Ct.toD, size_le, wipeE, seqOf, hsz, hone]
theorem book_of_ok {rs : Nat → List Row} (hb : BOk rs) {S : D} {Ss : Nat → D} (hS : Seqs S [Ss 0, Ss 1, Ss 2, Ss 3]) (hs : ∀ k, k < 4 → Seqs (Ss k) (rowsD (rs k))) :
    Mi.m_book_of [.val S] = .ok (bkO rs, [.val S]) := by
  let F : List (List Str) → Slot → Slot → Env := fun W s2 s3 => [.val S, .own (.lst ((W.map lineOf).map .str)), s2, s3]
  have hz : fZip3 [.tup [.str "inside", .str "first", .str "second", .str "none"], S] = some [.tup [.str (regName 0), Ss 0], .tup [.str (regName 1), Ss 1], .tup [.str (regName 2), Ss 2], .tup [.str (regName 3), Ss 3]] := by
    cases hS <;> rfl
  refine fun_v rfl ?_
  unfold Mi.M_book_of
  simp [-a_mFor, -a_mLc, -a_mWhile, -a_mCallM, mVar, a_gSet, a_gTup, a_gLst, a_gsC, a_gsN, asBl, ctOf, setCt, ctL, ctLen, frz, itemsOf, Ct.toD, size_le, wipeE]
  refine ev_for (ds := [.tup [.str (regName 0), Ss 0], .tup [.str (regName 1), Ss 1], .tup [.str (regName 2), Ss 2], .tup [.str (regName 3), Ss 3]]) (fun k ρ => ∃ s2 s3, (kdS s2 = 0 ∧ kdS s3 = 0) ∧ ρ = F (upW rs k) s2 s3) (ρ0 := [.val S, .own (.lst [.str "book"]), .un, .un]) (by simp [-a_mFor, -a_mLc, -a_mWhile, -a_mCallM, mVar, a_gSet, a_gTup, a_gLst, a_gsC, a_gsN, asBl, ctOf, setCt, ctL, ctLen, frz, itemsOf, Ct.toD, size_le, wipeE, hz])
    ⟨.un, .un, ⟨rfl, rfl⟩, by simp [F, upW, line_one]⟩ (fun k d ρ hd hI => ?_) (fun ρ' hI => ?_)
  · obtain ⟨s2, s3, ⟨k2, k3⟩, rfl⟩ := hI
    obtain ⟨hk, rfl⟩ := four_get (f := fun k => .tup [.str (regName k), Ss k]) hd
    have hul := upW_len hb k (by omega)
    have hrl := (hb k hk).len
    have hrr := region_rows_ok (hb k hk) (hs k hk)
    have hsz : (upW rs k).length + (rs k).length + 1 ≤ sizeLine := size_le (by omega)
    have hsz' : (upW rs k).length + ((rs k).length + 1) ≤ sizeLine := size_le (by omega)
    simp [-a_mFor, -a_mLc, -a_mWhile, -a_mCallM, mVar, a_gSet, a_gTup, a_gLst, a_gsC, a_gsN, asBl, ctOf, setCt, ctL, ctLen, frz, itemsOf, Ct.toD, size_le, wipeE, F, k2, k3, hrr, hsz, hsz', upW_succ]
  · obtain ⟨s2, s3, kk, rfl⟩ := hI
    have e4 : upW rs 4 = bookW rs := upW_4 rs
    show Ev (mFrz 1 _ (F (upW rs 4) s2 s3)) _
    rw [e4]
    have hj := join_text hb
    have hj' : opJoin "\n" (.lst ((bookW rs).map (D.str ∘ lineOf))) = some (.str (bookText rs)) := by rw [← List.map_map]; exact hj
    simp [-a_mFor, -a_mLc, -a_mWhile, -a_mCallM, mVar, a_gSet, a_gTup, a_gLst, a_gsC, a_gsN, asBl, ctOf, setCt, ctL, ctLen, frz, itemsOf, Ct.toD, size_le, wipeE, F]
    rw [new_book hb (by simp [-a_mFor, -a_mLc, -a_mWhile, -a_mCallM, mVar, a_gSet, a_gTup, a_gLst, a_gsC, a_gsN, asBl, ctOf, setCt, ctL, ctLen, frz, itemsOf, Ct.toD, size_le, wipeE, hj', hj])]
    simp [-a_mFor, -a_mLc, -a_mWhile, -a_mCallM, mVar, a_gSet, a_gTup, a_gLst, a_gsC, a_gsN, asBl, ctOf, setCt, ctL, ctLen, frz, itemsOf, Ct.toD, size_le, wipeE]
end DF
namespace DF
open PySem PySem.Spec L2 Evl TL
/-! ### the mean of a region -/
theorem check_ok {k : Nat} (hk : k < 4) : Mi.m_check_region [.val (.str (regName k))] = .ok (.non, [.val (.str (regName k))]) := by
  have hs : Mi.m_is_string [.val (.str (regName k)), .val regsD] = .ok (.bl true, [.val (.str (regName k)), .val regsD]) := by
    have hin : opIn (.str (regName k)) regsD = some (.bl true) := four (P := fun k => opIn (.str (regName k)) regsD = some (.bl true)) hk rfl rfl rfl rfl
    refine fun_ret (ρ' := [.val (.str (regName k)), .val regsD]) rfl ?_
    unfold Mi.M_is_string
    simp [asBl, mVar, hin]
  refine fun_nxt (ρ' := [.val (.str (regName k))]) rfl ?_
  unfold Mi.M_check_region
  simp [hs, asBl]
theorem steps_of_ok {rs : Nat → List Row} {k : Nat} (hk : k < 4) : Mi.m_steps_of [.val (bkO rs), .val (.str (regName k))] = .ok (.tup (rowsD (rs k)), [.val (bkO rs), .val (.str (regName k))]) := by
  have h1 := check_ok hk
  have h2 := region_steps_ok (rs := rs) hk
  refine fun_ret (ρ' := [.val (bkO rs), .val (.str (regName k))]) rfl ?_
  unfold Mi.M_steps_of
  refine (seq_nxt (ρ' := [.val (bkO rs), .val (.str (regName k))]) ?_).trans ?_
  · simp [mVar, h1]
  · simp [mVar, h2]
theorem dQ_int (i : Int) : (.tup [.int i, .int 1] : D) = dQ (i : Rat) := rfl
def dI (rows : List Row) : Rat := ls (fun r : Row => (r.i : Rat) * r.q) rows
def dJ (rows : List Row) : Rat := ls (fun r : Row => (r.j : Rat) * r.q) rows
theorem qb_step {lo : Int × Int} {rows : List Row} (hlo : -1 ≤ lo.1 ∧ -1 ≤ lo.2) (h : RowsOk lo rows) : ∀ r ∈ rows, QB 3 (r.i : Rat) ∧ QB 3 (r.j : Rat) ∧ QB 20 r.q := fun r hr => by
  have h1 := h.rng r hr
  refine ⟨QB.int' (i := r.i) (k := 3) (by have : (2 : Nat) ^ 3 = 8 := rfl; omega), QB.int' (i := r.j) (k := 3) (by have : (2 : Nat) ^ 3 = 8 := rfl; omega), row_qb h r hr⟩
theorem mean_qs {lo : Int × Int} {rows : List Row} (hlo : -1 ≤ lo.1 ∧ -1 ≤ lo.2) (h : RowsOk lo rows) :
    (QS (rows.map fun r : Row => (r.i : Rat) * r.q) ∧ QB 400 (dI rows)) ∧ QS (rows.map fun r : Row => (r.j : Rat) * r.q) ∧ QB 400 (dJ rows) := by
  have hs := qb_step hlo h
  have hl := h.len
  have h1 := qs_of (qs := rows.map fun r : Row => (r.i : Rat) * r.q) (k := 23) (n := 12) (fun q hq => by
    obtain ⟨r, hr, rfl⟩ := List.mem_map.mp hq
    exact (hs r hr).1.mul' (hs r hr).2.2) (by simp; omega) (by decide)
  have h2 := qs_of (qs := rows.map fun r : Row => (r.j : Rat) * r.q) (k := 23) (n := 12) (fun q hq => by
    obtain ⟨r, hr, rfl⟩ := List.mem_map.mp hq
    exact (hs r hr).2.1.mul' (hs r hr).2.2) (by simp; omega) (by decide)
  refine ⟨⟨h1.1, ?_⟩, h2.1, ?_⟩
  · have := qb_mono h1.2 (b := 400) (by decide)
    rw [qsum_ls, ls_map] at this
    exact this
  · have := qb_mono h2.2 (b := 400) (by decide)
    rw [qsum_ls, ls_map] at this
    exact this
theorem low_ge (k : Nat) : -1 ≤ (regLow k).1 ∧ -1 ≤ (regLow k).2 := by have := regLow_rng k; omega
theorem drift_ok {rs : Nat → List Row} {k : Nat} (hk : k < 4) (hr : RowsOk (regLow k) (rs k)) : Mi.m_drift [.val (bkO rs), .val (.str (regName k))] = .ok (.tup [dQ (dI (rs k)), dQ (dJ (rs k))], [.val (bkO rs), .val (.str (regName k))]) := by
  have hs := steps_of_ok (rs := rs) hk
  have hq := qb_step (low_ge k) hr
  have hl := hr.len
  obtain ⟨⟨q1, _⟩, q2, _⟩ := mean_qs (low_ge k) hr
  have t1 := m_total_ok q1
  have t2 := m_total_ok q2
  have e1 : qsum ((rs k).map fun r : Row => (r.i : Rat) * r.q) = dI (rs k) := by rw [qsum_ls, ls_map]; rfl
  have e2 : qsum ((rs k).map fun r : Row => (r.j : Rat) * r.q) = dJ (rs k) := by rw [qsum_ls, ls_map]; rfl
  rw [e1, List.map_map] at t1
  rw [e2, List.map_map] at t2
  refine fun_v rfl ?_
  unfold Mi.M_drift
  simp [-a_mFor, -a_mLc, -a_mWhile, -a_mCallM, mVar, a_gSet, a_gTup, a_gLst, a_gsC, a_gsN, asBl, ctOf, setCt, ctL, ctLen, frz, itemsOf, Ct.toD, size_le, wipeE, hs]
  rw [lc_map (rs k) rowD (fun r => dQ ((r.i : Rat) * r.q)) (ρ0 := [.val (bkO rs), .val (.str (regName k)), .val (.tup (rowsD (rs k))), .un, .un, .un, .un]) (by simp [-a_mFor, -a_mLc, -a_mWhile, -a_mCallM, mVar, a_gSet, a_gTup, a_gLst, a_gsC, a_gsN, asBl, ctOf, setCt, ctL, ctLen, frz, itemsOf, Ct.toD, size_le, wipeE]) (by omega) (by rfl) (fun r hr' => by
    have ht := m_times_ok (qb_mono (hq r hr').1 (by decide)) (qb_mono (hq r hr').2.2 (by decide))
    unfold rowD
    simp [-a_mFor, -a_mLc, -a_mWhile, -a_mCallM, mVar, a_gSet, a_gTup, a_gLst, a_gsC, a_gsN, asBl, ctOf, setCt, ctL, ctLen, frz, itemsOf, Ct.toD, size_le, wipeE, dQ_int, ht])]
  have t1' : Mi.m_total [.val (.lst ((rs k).map fun r => dQ ((r.i : Rat) * r.q)))] = _ := t1
  have t2' : Mi.m_total [.val (.lst ((rs k).map fun r => dQ ((r.j : Rat) * r.q)))] = _ := t2
  simp [-a_mFor, -a_mLc, -a_mWhile, -a_mCallM, mVar, a_gSet, a_gTup, a_gLst, a_gsC, a_gsN, asBl, ctOf, setCt, ctL, ctLen, frz, itemsOf, Ct.toD, size_le, wipeE, t1']
  rw [lc_map (rs k) rowD (fun r => dQ ((r.j : Rat) * r.q)) (ρ0 := [.val (bkO rs), .val (.str (regName k)), .val (.tup (rowsD (rs k))), .val (dQ (dI (rs k))), .un, .un, .un]) (by simp [-a_mFor, -a_mLc, -a_mWhile, -a_mCallM, mVar, a_gSet, a_gTup, a_gLst, a_gsC, a_gsN, asBl, ctOf, setCt, ctL, ctLen, frz, itemsOf, Ct.toD, size_le, wipeE]) (by omega) (by rfl) (fun r hr' => by
    have ht := m_times_ok (qb_mono (hq r hr').2.1 (by decide)) (qb_mono (hq r hr').2.2 (by decide))
    unfold rowD
    simp [-a_mFor, -a_mLc, -a_mWhile, -a_mCallM, mVar, a_gSet, a_gTup, a_gLst, a_gsC, a_gsN, asBl, ctOf, setCt, ctL, ctLen, frz, itemsOf, Ct.toD, size_le, wipeE, dQ_int, ht])]
  simp [-a_mFor, -a_mLc, -a_mWhile, -a_mCallM, mVar, a_gSet, a_gTup, a_gLst, a_gsC, a_gsN, asBl, ctOf, setCt, ctL, ctLen, frz, itemsOf, Ct.toD, size_le, wipeE, t2']
theorem law_drift_ok {rs : Nat → List Row} {k : Nat} (hk : k < 4) (hr : RowsOk (regLow k) (rs k)) : Mi.m__law_book_drift [.val (bkD rs), .val (.str (regName k))] = .ok (.tup [dQ (dI (rs k)), dQ (dJ (rs k))], [.val (bkD rs), .val (.str (regName k))]) := by
  have hx := bk_ix (rs := rs) hk
  have hq := qb_step (low_ge k) hr
  have hl := hr.len
  obtain ⟨⟨q1, _⟩, q2, _⟩ := mean_qs (low_ge k) hr
  have t1 := m__law_frac_sum_ok q1
  have t2 := m__law_frac_sum_ok q2
  have e1 : qsum ((rs k).map fun r : Row => (r.i : Rat) * r.q) = dI (rs k) := by rw [qsum_ls, ls_map]; rfl
  have e2 : qsum ((rs k).map fun r : Row => (r.j : Rat) * r.q) = dJ (rs k) := by rw [qsum_ls, ls_map]; rfl
  rw [e1, List.map_map] at t1
  rw [e2, List.map_map] at t2
  have t1' : Mi.m__law_frac_sum [.val (.lst ((rs k).map fun r => dQ ((r.i : Rat) * r.q)))] = _ := t1
  have t2' : Mi.m__law_frac_sum [.val (.lst ((rs k).map fun r => dQ ((r.j : Rat) * r.q)))] = _ := t2
  have r2 : ∀ r : Row, opIx (rowD r) (.int 2) = some (dQ r.q) := fun _ => rfl
  have r0 : ∀ r : Row, opIx (rowD r) (.int 0) = some (.int r.i) := fun _ => rfl
  have r1 : ∀ r : Row, opIx (rowD r) (.int 1) = some (.int r.j) := fun _ => rfl
  refine fun_v rfl ?_
  unfold Mi.M__law_book_drift
  simp [-a_mFor, -a_mLc, -a_mWhile, -a_mCallM, mVar, a_gSet, a_gTup, a_gLst, a_gsC, a_gsN, asBl, ctOf, setCt, ctL, ctLen, frz, itemsOf, Ct.toD, size_le, wipeE, hx]
  rw [lc_map [false, true] (fun b => .int (if b then 1 else 0)) (fun b => dQ (if b then dJ (rs k) else dI (rs k))) (ρ0 := [.val (bkD rs), .val (.str (regName k)), .val (.lst (rowsD (rs k))), .un, .un, .un]) (by simp [-a_mFor, -a_mLc, -a_mWhile, -a_mCallM, mVar, a_gSet, a_gTup, a_gLst, a_gsC, a_gsN, asBl, ctOf, setCt, ctL, ctLen, frz, itemsOf, Ct.toD, size_le, wipeE]) (by simp) (by rfl) (fun b _ => by
    cases b
    · simp [-a_mFor, -a_mLc, -a_mWhile, -a_mCallM, mVar, a_gSet, a_gTup, a_gLst, a_gsC, a_gsN, asBl, ctOf, setCt, ctL, ctLen, frz, itemsOf, Ct.toD, size_le, wipeE]
      rw [lc_map (rs k) rowD (fun r => dQ ((r.i : Rat) * r.q)) (ρ0 := [.val (bkD rs), .val (.str (regName k)), .val (.lst (rowsD (rs k))), .un, .val (.int 0), .un]) (by simp [-a_mFor, -a_mLc, -a_mWhile, -a_mCallM, mVar, a_gSet, a_gTup, a_gLst, a_gsC, a_gsN, asBl, ctOf, setCt, ctL, ctLen, frz, itemsOf, Ct.toD, size_le, wipeE]) (by omega) (by rfl) (fun r hr' => by
        have ht := m__law_frac_times_ok (qb_mono (hq r hr').1 (by decide)) (qb_mono (hq r hr').2.2 (by decide))
        simp [-a_mFor, -a_mLc, -a_mWhile, -a_mCallM, mVar, a_gSet, a_gTup, a_gLst, a_gsC, a_gsN, asBl, ctOf, setCt, ctL, ctLen, frz, itemsOf, Ct.toD, size_le, wipeE, r0, r2, dQ_int, ht])]
      simp [-a_mFor, -a_mLc, -a_mWhile, -a_mCallM, mVar, a_gSet, a_gTup, a_gLst, a_gsC, a_gsN, asBl, ctOf, setCt, ctL, ctLen, frz, itemsOf, Ct.toD, size_le, wipeE, t1']
    · simp [-a_mFor, -a_mLc, -a_mWhile, -a_mCallM, mVar, a_gSet, a_gTup, a_gLst, a_gsC, a_gsN, asBl, ctOf, setCt, ctL, ctLen, frz, itemsOf, Ct.toD, size_le, wipeE]
      rw [lc_map (rs k) rowD (fun r => dQ ((r.j : Rat) * r.q)) (ρ0 := [.val (bkD rs), .val (.str (regName k)), .val (.lst (rowsD (rs k))), .un, .val (.int 1), .un]) (by simp [-a_mFor, -a_mLc, -a_mWhile, -a_mCallM, mVar, a_gSet, a_gTup, a_gLst, a_gsC, a_gsN, asBl, ctOf, setCt, ctL, ctLen, frz, itemsOf, Ct.toD, size_le, wipeE]) (by omega) (by rfl) (fun r hr' => by
        have ht := m__law_frac_times_ok (qb_mono (hq r hr').2.1 (by decide)) (qb_mono (hq r hr').2.2 (by decide))
        simp [-a_mFor, -a_mLc, -a_mWhile, -a_mCallM, mVar, a_gSet, a_gTup, a_gLst, a_gsC, a_gsN, asBl, ctOf, setCt, ctL, ctLen, frz, itemsOf, Ct.toD, size_le, wipeE, r1, r2, dQ_int, ht])]
      simp [-a_mFor, -a_mLc, -a_mWhile, -a_mCallM, mVar, a_gSet, a_gTup, a_gLst, a_gsC, a_gsN, asBl, ctOf, setCt, ctL, ctLen, frz, itemsOf, Ct.toD, size_le, wipeE, t2'])]
  have l0 : opIx (.lst [dQ (dI (rs k)), dQ (dJ (rs k))]) (.int 0) = some (dQ (dI (rs k))) := rfl
  have l1 : opIx (.lst [dQ (dI (rs k)), dQ (dJ (rs k))]) (.int 1) = some (dQ (dJ (rs k))) := rfl
  simp [-a_mFor, -a_mLc, -a_mWhile, -a_mCallM, mVar, a_gSet, a_gTup, a_gLst, a_gsC, a_gsN, asBl, ctOf, setCt, ctL, ctLen, frz, itemsOf, Ct.toD, size_le, wipeE, l0, l1]
end DF
namespace DF
open PySem PySem.Spec L2 Evl TL
/-! ### loops written out -/
def fq (M : Env → Res Out) (Q : Out → Prop) : Out → Prop
  | .nxt ρ => Ev (M ρ) Q
  | .cnt ρ => Ev (M ρ) Q
  | .brk ρ => Q (.nxt ρ)
  | .ret d ρ => Q (.ret d ρ)
theorem fq_nxt (M : Env → Res Out) (Q : Out → Prop) (ρ : Env) : fq M Q (.nxt ρ) = Ev (M ρ) Q := rfl
theorem fq_ret (M : Env → Res Out) (Q : Out → Prop) (d : D) (ρ : Env) : fq M Q (.ret d ρ) = Q (.ret d ρ) := rfl
theorem ev_for_open {mi : MI} {g : MG} {mb : MS} {ρ ρ0 : Env} {Q : Out → Prop} {ds : List D} (hi : mi ρ = .ok (ds, ρ0)) : Ev (mFor mi g mb ρ) Q ↔ Ev (forGo g mb ds ρ0) Q := by
  rw [a_mFor, hi]; rfl
theorem ev_go_nil (g : MG) (mb : MS) (ρ : Env) (Q : Out → Prop) : Ev (forGo g mb [] ρ) Q ↔ Q (.nxt ρ) := by
  unfold forGo; exact ev_ok _ _
theorem ev_go_cons (g : MG) (mb : MS) (d : D) (ds : List D) (ρ : Env) (Q : Out → Prop) : Ev (forGo g mb (d :: ds) ρ) Q ↔ Ev (g d ρ) fun ρ1 => Ev (mb ρ1) (fq (forGo g mb ds) Q) := by
  rw [show forGo g mb (d :: ds) ρ = (g d ρ).bind fun ρ1 => (mb ρ1).bind fun o => match o with
    | .nxt ρ2 => forGo g mb ds ρ2
    | .cnt ρ2 => forGo g mb ds ρ2
    | .brk ρ2 => .ok (.nxt ρ2)
    | .ret d' ρ2 => .ok (.ret d' ρ2) from rfl, ev_bind]
  have key : ∀ o : Out, (Ev (match o with
    | .nxt ρ2 => forGo g mb ds ρ2
    | .cnt ρ2 => forGo g mb ds ρ2
    | .brk ρ2 => .ok (.nxt ρ2)
    | .ret d' ρ2 => .ok (.ret d' ρ2)) Q) = fq (forGo g mb ds) Q o := fun o => by
    cases o with
    | nxt ρ => rfl
    | cnt ρ => rfl
    | brk ρ => exact propext (ev_ok _ _)
    | ret d ρ => exact propext (ev_ok _ _)
  have e : (fun ρ1 => Ev ((mb ρ1).bind fun o => match o with
    | .nxt ρ2 => forGo g mb ds ρ2
    | .cnt ρ2 => forGo g mb ds ρ2
    | .brk ρ2 => .ok (.nxt ρ2)
    | .ret d' ρ2 => .ok (.ret d' ρ2)) Q) = fun ρ1 => Ev (mb ρ1) (fq (forGo g mb ds) Q) := funext fun ρ1 => by
    refine propext ((ev_bind _ _ _).trans ?_)
    simp only [key]
  rw [e]
/-! ### the means' signs -/
def tA (rs : Nat → List Row) : Rat := dJ (rs 1) * dI (rs 0) - dI (rs 1) * dJ (rs 0)
def tB (rs : Nat → List Row) : Rat := dI (rs 2) * dJ (rs 0) - dJ (rs 2) * dI (rs 0)
theorem mean_b {rs : Nat → List Row} (h : BOk rs) {k : Nat} (hk : k < 4) : QB 400 (dI (rs k)) ∧ QB 400 (dJ (rs k)) := by
  obtain ⟨⟨_, a⟩, _, b⟩ := mean_qs (low_ge k) (h k hk)
  exact ⟨a, b⟩
theorem turns_ok {rs : Nat → List Row} (h : BOk rs) : Mi.m_turns [.val (bkO rs)] = .ok (.tup [dQ (tA rs), dQ (tB rs)], [.val (bkO rs)]) := by
  obtain ⟨mx, my⟩ := mean_b h (k := 0) (by decide)
  obtain ⟨ax, ay⟩ := mean_b h (k := 1) (by decide)
  obtain ⟨bx, by_⟩ := mean_b h (k := 2) (by decide)
  have t1 := m_times_ok (qb_mono ay (by decide)) (qb_mono mx (by decide))
  have t2 := m_times_ok (qb_mono ax (by decide)) (qb_mono my (by decide))
  have t3 := m_less_ok (qb_mono (ay.mul' mx) (by decide)) (qb_mono (ax.mul' my) (by decide))
  have t4 := m_times_ok (qb_mono bx (by decide)) (qb_mono my (by decide))
  have t5 := m_times_ok (qb_mono by_ (by decide)) (qb_mono mx (by decide))
  have t6 := m_less_ok (qb_mono (bx.mul' my) (by decide)) (qb_mono (by_.mul' mx) (by decide))
  refine fun_v rfl ?_
  unfold Mi.M_turns
  simp [-a_mFor, -a_mLc, -a_mWhile, -a_mCallM, mVar, a_gSet, a_gTup, a_gLst, a_gsC, a_gsN, asBl, ctOf, setCt, ctL, ctLen, frz, itemsOf, Ct.toD, size_le, wipeE]
  rw [lc_map [0, 1, 2] (fun k => .str (regName k)) (fun k => .tup [dQ (dI (rs k)), dQ (dJ (rs k))]) (ρ0 := [.val (bkO rs), .un, .un, .un, .un, .un, .un, .un]) (by simp [-a_mFor, -a_mLc, -a_mWhile, -a_mCallM, mVar, a_gSet, a_gTup, a_gLst, a_gsC, a_gsN, asBl, ctOf, setCt, ctL, ctLen, frz, itemsOf, Ct.toD, size_le, wipeE, regName]) (by simp) (by rfl) (fun k hk => by
    have hk4 : k < 4 := by simp at hk; omega
    have hd := drift_ok hk4 (h k hk4)
    simp [-a_mFor, -a_mLc, -a_mWhile, -a_mCallM, mVar, a_gSet, a_gTup, a_gLst, a_gsC, a_gsN, asBl, ctOf, setCt, ctL, ctLen, frz, itemsOf, Ct.toD, size_le, wipeE, hd])]
  simp [-a_mFor, -a_mLc, -a_mWhile, -a_mCallM, mVar, a_gSet, a_gTup, a_gLst, a_gsC, a_gsN, asBl, ctOf, setCt, ctL, ctLen, frz, itemsOf, Ct.toD, size_le, wipeE, t1, t2, t3, t4, t5, t6]
  exact ⟨rfl, rfl⟩
theorem law_turns_ok {rs : Nat → List Row} (h : BOk rs) : Mi.m__law_book_turns [.val (bkD rs)] = .ok (.tup [dQ (tA rs), dQ (tB rs)], [.val (bkD rs)]) := by
  obtain ⟨mx, my⟩ := mean_b h (k := 0) (by decide)
  obtain ⟨ax, ay⟩ := mean_b h (k := 1) (by decide)
  obtain ⟨bx, by_⟩ := mean_b h (k := 2) (by decide)
  have t1 := m__law_frac_times_ok (qb_mono ay (by decide)) (qb_mono mx (by decide))
  have t2 := m__law_frac_times_ok (qb_mono ax (by decide)) (qb_mono my (by decide))
  have t3 := m__law_frac_less_ok (qb_mono (ay.mul' mx) (by decide)) (qb_mono (ax.mul' my) (by decide))
  have t4 := m__law_frac_times_ok (qb_mono bx (by decide)) (qb_mono my (by decide))
  have t5 := m__law_frac_times_ok (qb_mono by_ (by decide)) (qb_mono mx (by decide))
  have t6 := m__law_frac_less_ok (qb_mono (bx.mul' my) (by decide)) (qb_mono (by_.mul' mx) (by decide))
  refine fun_v rfl ?_
  unfold Mi.M__law_book_turns
  simp [-a_mFor, -a_mLc, -a_mWhile, -a_mCallM, mVar, a_gSet, a_gTup, a_gLst, a_gsC, a_gsN, asBl, ctOf, setCt, ctL, ctLen, frz, itemsOf, Ct.toD, size_le, wipeE]
  rw [lc_map [0, 1, 2] (fun k => .str (regName k)) (fun k => .tup [dQ (dI (rs k)), dQ (dJ (rs k))]) (ρ0 := [.val (bkD rs), .un, .un, .un, .un, .un, .un, .un, .un]) (by simp [-a_mFor, -a_mLc, -a_mWhile, -a_mCallM, mVar, a_gSet, a_gTup, a_gLst, a_gsC, a_gsN, asBl, ctOf, setCt, ctL, ctLen, frz, itemsOf, Ct.toD, size_le, wipeE, regName]) (by simp) (by rfl) (fun k hk => by
    have hk4 : k < 4 := by simp at hk; omega
    have hd := law_drift_ok hk4 (h k hk4)
    simp [-a_mFor, -a_mLc, -a_mWhile, -a_mCallM, mVar, a_gSet, a_gTup, a_gLst, a_gsC, a_gsN, asBl, ctOf, setCt, ctL, ctLen, frz, itemsOf, Ct.toD, size_le, wipeE, hd])]
  simp [-a_mFor, -a_mLc, -a_mWhile, -a_mCallM, mVar, a_gSet, a_gTup, a_gLst, a_gsC, a_gsN, asBl, ctOf, setCt, ctL, ctLen, frz, itemsOf, Ct.toD, size_le, wipeE, t1, t2, t3, t4, t5, t6]
  exact ⟨rfl, rfl⟩
/-! ### the sides that are asked for -/
def sideL (a b : Bool) : List Nat := (if a then [1] else []) ++ if b then [2] else []
def sideT (a b : Bool) : D := .tup ((sideL a b).map fun k => .str (regName k))
theorem in_first (a b : Bool) : opIn (.str "first") (sideT a b) = some (.bl a) := by cases a <;> cases b <;> rfl
theorem in_second (a b : Bool) : opIn (.str "second") (sideT a b) = some (.bl b) := by cases a <;> cases b <;> rfl
def ngI (rs : Nat → List Row) : Bool := decide ((dI (rs 0)).num < 0)
def ngJ (rs : Nat → List Row) : Bool := decide ((dJ (rs 0)).num < 0)
def zI (rs : Nat → List Row) : Bool := decide ((dI (rs 0)).num = 0)
def zJ (rs : Nat → List Row) : Bool := decide ((dJ (rs 0)).num = 0)
theorem drift0 {rs : Nat → List Row} (h : BOk rs) : Mi.m_drift [.val (bkO rs), .val (.str "inside")] = .ok (.tup [dQ (dI (rs 0)), dQ (dJ (rs 0))], [.val (bkO rs), .val (.str "inside")]) := drift_ok (k := 0) (by decide) (h 0 (by decide))
theorem ldrift0 {rs : Nat → List Row} (h : BOk rs) : Mi.m__law_book_drift [.val (bkD rs), .val (.str "inside")] = .ok (.tup [dQ (dI (rs 0)), dQ (dJ (rs 0))], [.val (bkD rs), .val (.str "inside")]) := law_drift_ok (k := 0) (by decide) (h 0 (by decide))
theorem dq0 (q : Rat) : opIx (dQ q) (.int 0) = some (.int q.num) := rfl
theorem asked_sides_ok {rs : Nat → List Row} (h : BOk rs) : Mi.m_asked_sides [.val (bkO rs)] = .ok (sideT (ngJ rs) (ngI rs), [.val (bkO rs)]) := by
  have hd := drift0 h
  refine fun_v rfl ?_
  unfold Mi.M_asked_sides
  simp [-a_mFor, -a_mLc, -a_mWhile, -a_mCallM, mVar, a_gSet, a_gTup, a_gLst, a_gsC, a_gsN, asBl, ctOf, setCt, ctL, ctLen, frz, itemsOf, Ct.toD, size_le, wipeE, hd, dq0, opLt]
  rw [lc_fmap [((1 : Nat), ngJ rs), (2, ngI rs)] (fun p => .tup [.str (regName p.1), .bl p.2]) (fun p => p.2) (fun p => .str (regName p.1)) (ρ0 := [.val (bkO rs), .val (dQ (dI (rs 0))), .val (dQ (dJ (rs 0))), .val (.bl (ngJ rs)), .val (.bl (ngI rs)), .un, .un]) (by simp [-a_mFor, -a_mLc, -a_mWhile, -a_mCallM, mVar, a_gSet, a_gTup, a_gLst, a_gsC, a_gsN, asBl, ctOf, setCt, ctL, ctLen, frz, itemsOf, Ct.toD, size_le, wipeE, regName, ngJ, ngI]) (by simp) (by rfl) (fun p _ => by
    obtain ⟨k, b⟩ := p
    cases b <;> simp [-a_mFor, -a_mLc, -a_mWhile, -a_mCallM, mVar, a_gSet, a_gTup, a_gLst, a_gsC, a_gsN, asBl, ctOf, setCt, ctL, ctLen, frz, itemsOf, Ct.toD, size_le, wipeE])]
  simp [-a_mFor, -a_mLc, -a_mWhile, -a_mCallM, mVar, a_gSet, a_gTup, a_gLst, a_gsC, a_gsN, asBl, ctOf, setCt, ctL, ctLen, frz, itemsOf, Ct.toD, size_le, wipeE, fTuple, sideT, sideL]
  cases ngJ rs <;> cases ngI rs <;> simp
theorem law_sides_ok {rs : Nat → List Row} (h : BOk rs) : Mi.m__law_book_sides [.val (bkD rs)] = .ok (sideT (ngJ rs && !zI rs) (ngI rs && !zJ rs), [.val (bkD rs)]) := by
  have hd := ldrift0 h
  refine fun_v rfl ?_
  unfold Mi.M__law_book_sides
  by_cases h1 : (dJ (rs 0)).num < 0 <;> by_cases h2 : (dI (rs 0)).num = 0 <;> by_cases h3 : (dI (rs 0)).num < 0 <;> by_cases h4 : (dJ (rs 0)).num = 0 <;>
    simp [-a_mFor, -a_mLc, -a_mWhile, -a_mCallM, mVar, a_gSet, a_gTup, a_gLst, a_gsC, a_gsN, asBl, ctOf, setCt, ctL, ctLen, frz, itemsOf, Ct.toD, size_le, wipeE, hd, dq0, opLt, opNe_int, h1, h2, h3, h4, ngJ, ngI, zI, zJ, opAdd, fTuple, sideT, sideL, regName]
end DF
namespace DF
open PySem PySem.Spec L2 Evl TL
/-! ### what stands on a border -/
theorem a_mDictL (ma : ME) (ρ : Env) : mDictL ma ρ = (ma ρ).bind fun x => (lft (dictOf x.1)).bind fun kvs => .ok (.dct (foldD kvs), x.2) := rfl
theorem a_mListZ (mr : MA) (ρ : Env) : mListZ mr ρ = (mr ρ).bind fun x => (lft (fZ2 x.1)).bind fun ds => .ok (.lst ds, x.2) := rfl
def firstW : List (Str × Bool) → D
  | [] => .non
  | p :: r => if p.2 = true then .str p.1 else firstW r
def b3 (rs : Nat → List Row) : Bool := decide ((dJ (rs 1)).num = 0)
def b4 (rs : Nat → List Row) : Bool := decide ((dI (rs 2)).num = 0)
def b5 (rs : Nat → List Row) : Bool := decide ((tA rs).num = 0)
def b6 (rs : Nat → List Row) : Bool := decide ((tB rs).num = 0)
def bdL (rs : Nat → List Row) : List (Str × Bool) := [("x", zI rs), ("y", zJ rs), ("first", b3 rs), ("second", b4 rs), ("first turn", ngJ rs && b5 rs), ("second turn", ngI rs && b6 rs)]
def bdD (rs : Nat → List Row) : D := firstW (bdL rs)
theorem border_ok {rs : Nat → List Row} (h : BOk rs) : Mi.m_border [.val (bkO rs)] = .ok (bdD rs, [.val (bkO rs)]) := by
  have ha := asked_sides_ok h
  have ht := turns_ok h
  have i1 := in_first (ngJ rs) (ngI rs)
  have i2 := in_second (ngJ rs) (ngI rs)
  refine fun_v rfl ?_
  unfold Mi.M_border
  simp [-a_mFor, -a_mLc, -a_mWhile, -a_mCallM, mVar, a_gSet, a_gTup, a_gLst, a_gsC, a_gsN, asBl, ctOf, setCt, ctL, ctLen, frz, itemsOf, Ct.toD, size_le, wipeE]
  rw [lc_map [0, 1, 2] (fun k => .str (regName k)) (fun k => .tup [dQ (dI (rs k)), dQ (dJ (rs k))]) (ρ0 := [.val (bkO rs), .un, .un, .un, .un, .un, .un, .un, .un, .un, .un, .un, .un]) (by simp [-a_mFor, -a_mLc, -a_mWhile, -a_mCallM, mVar, a_gSet, a_gTup, a_gLst, a_gsC, a_gsN, asBl, ctOf, setCt, ctL, ctLen, frz, itemsOf, Ct.toD, size_le, wipeE, regName]) (by simp) (by rfl) (fun k hk => by
    have hk4 : k < 4 := by simp at hk; omega
    have hd := drift_ok hk4 (h k hk4)
    simp [-a_mFor, -a_mLc, -a_mWhile, -a_mCallM, mVar, a_gSet, a_gTup, a_gLst, a_gsC, a_gsN, asBl, ctOf, setCt, ctL, ctLen, frz, itemsOf, Ct.toD, size_le, wipeE, hd])]
  simp [-a_mFor, -a_mLc, -a_mWhile, -a_mCallM, mVar, a_gSet, a_gTup, a_gLst, a_gsC, a_gsN, asBl, ctOf, setCt, ctL, ctLen, frz, itemsOf, Ct.toD, size_le, wipeE]
  let F : Slot → Slot → Slot → Slot → Slot → Env := fun s7 s8 s9 s10 s11 => [.val (bkO rs), .val (dQ (dI (rs 0))), .val (dQ (dJ (rs 0))), .val (dQ (dI (rs 1))), .val (dQ (dJ (rs 1))), .val (dQ (dI (rs 2))), .val (dQ (dJ (rs 2))), s7, s8, s9, s10, s11, .un]
  rw [ev_for_open (ds := [.tup [.str "x", dQ (dI (rs 0))], .tup [.str "y", dQ (dJ (rs 0))], .tup [.str "first", dQ (dJ (rs 1))], .tup [.str "second", dQ (dI (rs 2))]]) (ρ0 := F .un .un .un .un .un) (by simp [-a_mFor, -a_mLc, -a_mWhile, -a_mCallM, mVar, a_gSet, a_gTup, a_gLst, a_gsC, a_gsN, asBl, ctOf, setCt, ctL, ctLen, frz, itemsOf, Ct.toD, size_le, wipeE, F])]
  by_cases z1 : (dI (rs 0)).num = 0
  · simp [-a_mFor, -a_mLc, -a_mWhile, -a_mCallM, mVar, a_gSet, a_gTup, a_gLst, a_gsC, a_gsN, asBl, ctOf, setCt, ctL, ctLen, frz, itemsOf, Ct.toD, size_le, wipeE, F, ev_go_cons, ev_go_nil, fq_nxt, fq_ret, dq0, opEq_int, z1, bdD, bdL, firstW, zI]
  by_cases z2 : (dJ (rs 0)).num = 0
  · simp [-a_mFor, -a_mLc, -a_mWhile, -a_mCallM, mVar, a_gSet, a_gTup, a_gLst, a_gsC, a_gsN, asBl, ctOf, setCt, ctL, ctLen, frz, itemsOf, Ct.toD, size_le, wipeE, F, ev_go_cons, ev_go_nil, fq_nxt, fq_ret, dq0, opEq_int, z1, z2, bdD, bdL, firstW, zI, zJ]
  by_cases z3 : (dJ (rs 1)).num = 0
  · simp [-a_mFor, -a_mLc, -a_mWhile, -a_mCallM, mVar, a_gSet, a_gTup, a_gLst, a_gsC, a_gsN, asBl, ctOf, setCt, ctL, ctLen, frz, itemsOf, Ct.toD, size_le, wipeE, F, ev_go_cons, ev_go_nil, fq_nxt, fq_ret, dq0, opEq_int, z1, z2, z3, bdD, bdL, firstW, zI, zJ, b3]
  by_cases z4 : (dI (rs 2)).num = 0
  · simp [-a_mFor, -a_mLc, -a_mWhile, -a_mCallM, mVar, a_gSet, a_gTup, a_gLst, a_gsC, a_gsN, asBl, ctOf, setCt, ctL, ctLen, frz, itemsOf, Ct.toD, size_le, wipeE, F, ev_go_cons, ev_go_nil, fq_nxt, fq_ret, dq0, opEq_int, z1, z2, z3, z4, bdD, bdL, firstW, zI, zJ, b3, b4]
  simp [-a_mFor, -a_mLc, -a_mWhile, -a_mCallM, mVar, a_gSet, a_gTup, a_gLst, a_gsC, a_gsN, asBl, ctOf, setCt, ctL, ctLen, frz, itemsOf, Ct.toD, size_le, wipeE, F, ev_go_cons, ev_go_nil, fq_nxt, fq_ret, dq0, opEq_int, z1, z2, z3, z4, ha]
  rw [ev_for_open (ds := [.tup [.str "first", .str "first turn", dQ (tA rs)], .tup [.str "second", .str "second turn", dQ (tB rs)]]) (ρ0 := F (.val (.str "second")) (.val (dQ (dI (rs 2)))) (.val (sideT (ngJ rs) (ngI rs))) .un .un) (by simp [-a_mFor, -a_mLc, -a_mWhile, -a_mCallM, mVar, a_gSet, a_gTup, a_gLst, a_gsC, a_gsN, asBl, ctOf, setCt, ctL, ctLen, frz, itemsOf, Ct.toD, size_le, wipeE, F, ht, fZ3, seqB, zip3D])]
  cases g1 : ngJ rs <;> cases g2 : ngI rs <;> rw [g1, g2] at i1 i2 <;> by_cases z5 : (tA rs).num = 0 <;> by_cases z6 : (tB rs).num = 0 <;>
    simp [-a_mFor, -a_mLc, -a_mWhile, -a_mCallM, mVar, a_gSet, a_gTup, a_gLst, a_gsC, a_gsN, asBl, ctOf, setCt, ctL, ctLen, frz, itemsOf, Ct.toD, size_le, wipeE, F, ev_go_cons, ev_go_nil, fq_nxt, fq_ret, dq0, opEq_int, z1, z2, z3, z4, z5, z6, i1, i2, g1, g2, bdD, bdL, firstW, zI, zJ, b3, b4, b5, b6]
theorem firstW_ok : ∀ (L : List (Str × Bool)), firstW L = match L.filter (fun p => p.2) with
    | [] => .non
    | p :: _ => .str p.1
  | [] => rfl
  | (s, true) :: r => rfl
  | (s, false) :: r => by
    show firstW r = _
    rw [firstW_ok r]
    rfl
theorem ne_nil {ws : List Str} (h : ∀ w ∈ ws, PyData.strOk w = true) : opNe (.lst (ws.map .str)) (.lst []) = some (.bl (!ws.isEmpty)) := by
  have g0 : Good 1 (.lst []) := Good.lst (n := 0) (fun d hd => by cases hd)
  unfold opNe
  cases ws with
  | nil =>
    show (eqD (.lst []) (.lst [])).map _ = _
    rw [eqD_same (n := 1) (by decide) g0]
    rfl
  | cons w r =>
    rw [eqD_diff (n := 1) (by decide) (strs_good h) g0 (fun z => by
      have := D.lst.inj z
      simp at this)]
    rfl
theorem bd_same (x y c d g i e f : Bool) : firstW [("x", x), ("y", y), ("first", c), ("second", d), ("first turn", (g && !x) && e), ("second turn", (i && !y) && f)] = firstW [("x", x), ("y", y), ("first", c), ("second", d), ("first turn", g && e), ("second turn", i && f)] := by
  cases x <;> cases y <;> simp [firstW]
theorem bd_words (x y c d g i : Bool) : ∀ w ∈ (([("x", x), ("y", y), ("first", c), ("second", d), ("first turn", g), ("second turn", i)] : List (Str × Bool)).filter fun p => p.2).map (fun p => p.1), PyData.strOk w = true := fun w hw => by
  obtain ⟨p, hp, rfl⟩ := List.mem_map.mp hw
  have hp' := (List.mem_filter.mp hp).1
  have k1 : PyData.strOk ("x" : Str) = true := by decide +kernel
  have k2 : PyData.strOk ("y" : Str) = true := by decide +kernel
  have k3 : PyData.strOk ("first" : Str) = true := by decide +kernel
  have k4 : PyData.strOk ("second" : Str) = true := by decide +kernel
  have k5 : PyData.strOk ("first turn" : Str) = true := by decide +kernel
  have k6 : PyData.strOk ("second turn" : Str) = true := by decide +kernel
  simp only [List.mem_cons, List.not_mem_nil, or_false] at hp'
  rcases hp' with rfl | rfl | rfl | rfl | rfl | rfl <;> assumption
/-- the word told at the end of the law's border -/
theorem told_ok {ρ : Env} {L : List (Str × Bool)} (hw : ∀ w ∈ (L.filter fun p => p.2).map (fun p => p.1), PyData.strOk w = true) (h7 : ρ[7]? = some (.val (.lst ((L.filter fun p => p.2).map fun p => .str p.1)))) :
    mIf (mTest (mBin opNe (mVar 7) (mOfL (mLstL mNil)))) (mBin opIx (mVar 7) (mC (.int 0))) (mC .non) ρ = .ok (firstW L, ρ) := by
  have hn := ne_nil hw
  have e : (((L.filter fun p => p.2).map (fun p => p.1)).map D.str) = (L.filter fun p => p.2).map fun p => .str p.1 := by rw [List.map_map]; rfl
  rw [e] at hn
  rw [firstW_ok L]
  cases hf : L.filter (fun p => p.2) with
  | nil =>
    rw [hf] at hn h7
    have hn' : opNe (.lst []) (.lst []) = some (.bl false) := hn
    have h7' : ρ[7]? = some (.val (.lst [])) := h7
    simp [mVar, h7', hn', asBl, Ct.toD]
  | cons p r =>
    rw [hf] at hn h7
    have hn' : opNe (.lst (.str p.1 :: r.map fun p => .str p.1)) (.lst []) = some (.bl true) := hn
    have h7' : ρ[7]? = some (.val (.lst (.str p.1 :: r.map fun p => .str p.1))) := h7
    have hx : opIx (.lst (.str p.1 :: r.map fun p => .str p.1)) (.int 0) = some (.str p.1) := by
      simp only [opIx, atI_zero]
    simp [mVar, h7', hn', asBl, Ct.toD, hx]
theorem law_border_ok {rs : Nat → List Row} (h : BOk rs) : Mi.m__law_book_border [.val (bkD rs)] = .ok (bdD rs, [.val (bkD rs)]) := by
  have hd := ldrift0 h
  have hd1 : Mi.m__law_book_drift [.val (bkD rs), .val (.str "first")] = .ok (.tup [dQ (dI (rs 1)), dQ (dJ (rs 1))], [.val (bkD rs), .val (.str "first")]) := law_drift_ok (k := 1) (by decide) (h 1 (by decide))
  have hd2 : Mi.m__law_book_drift [.val (bkD rs), .val (.str "second")] = .ok (.tup [dQ (dI (rs 2)), dQ (dJ (rs 2))], [.val (bkD rs), .val (.str "second")]) := law_drift_ok (k := 2) (by decide) (h 2 (by decide))
  have ha := law_sides_ok h
  have ht := law_turns_ok h
  have g0 : ∀ a b : D, opIx (.tup [a, b]) (.int 0) = some a := fun _ _ => rfl
  have g1 : ∀ a b : D, opIx (.tup [a, b]) (.int 1) = some b := fun _ _ => rfl
  have hs := bd_same (zI rs) (zJ rs) (b3 rs) (b4 rs) (ngJ rs) (ngI rs) (b5 rs) (b6 rs)
  have hB : bdD rs = firstW [("x", zI rs), ("y", zJ rs), ("first", b3 rs), ("second", b4 rs), ("first turn", (ngJ rs && !zI rs) && b5 rs), ("second turn", (ngI rs && !zJ rs) && b6 rs)] := hs.symm
  rw [hB]
  generalize (ngJ rs && !zI rs) = a at *
  generalize (ngI rs && !zJ rs) = b at *
  have i1 := in_first a b
  have i2 := in_second a b
  have c1 : opEq (.int (dI (rs 0)).num) (.int 0) = some (.bl (zI rs)) := opEq_int _ _
  have c2 : opEq (.int (dJ (rs 0)).num) (.int 0) = some (.bl (zJ rs)) := opEq_int _ _
  have c3 : opEq (.int (dJ (rs 1)).num) (.int 0) = some (.bl (b3 rs)) := opEq_int _ _
  have c4 : opEq (.int (dI (rs 2)).num) (.int 0) = some (.bl (b4 rs)) := opEq_int _ _
  have c5 : opEq (.int (tA rs).num) (.int 0) = some (.bl (b5 rs)) := opEq_int _ _
  have c6 : opEq (.int (tB rs).num) (.int 0) = some (.bl (b6 rs)) := opEq_int _ _
  have z2 : (2 : Nat) < sizeLine := by decide
  have z3 : (3 : Nat) < sizeLine := by decide
  have z4 : (4 : Nat) < sizeLine := by decide
  have z5 : (5 : Nat) < sizeLine := by decide
  have fin : ∀ (p5 p6 : Bool), Ev (mFrz 6 (mSet 7 (mVal (mOfL (mLc [8, 9] (mItems (mVar 6)) (gTupD 2 (gsCons (gSet 8) (gsCons (gSet 9) gsNil))) (mTest (mVar 9)) (mVar 8)))))
      [.val (bkD rs), .val (dQ (dI (rs 0))), .val (dQ (dJ (rs 0))), .val (dQ (tA rs)), .val (dQ (tB rs)), .val (sideT a b), .own (.lst [.tup [.str "x", .bl (zI rs)], .tup [.str "y", .bl (zJ rs)], .tup [.str "first", .bl (b3 rs)], .tup [.str "second", .bl (b4 rs)], .tup [.str "first turn", .bl p5], .tup [.str "second turn", .bl p6]]), .un, .un, .un])
      (sq (mRet (mIf (mTest (mBin opNe (mVar 7) (mOfL (mLstL mNil)))) (mBin opIx (mVar 7) (mC (.int 0))) (mC .non))) fun o => ∃ ρ', o = .ret (firstW [("x", zI rs), ("y", zJ rs), ("first", b3 rs), ("second", b4 rs), ("first turn", p5), ("second turn", p6)]) ρ') := fun p5 p6 => by
    simp [-a_mFor, -a_mLc, -a_mWhile, -a_mCallM, mVar, a_gSet, a_gTup, a_gLst, a_gsC, a_gsN, asBl, ctOf, setCt, ctL, ctLen, frz, itemsOf, Ct.toD, size_le, wipeE]
    rw [lc_fmap ([("x", zI rs), ("y", zJ rs), ("first", b3 rs), ("second", b4 rs), ("first turn", p5), ("second turn", p6)] : List (Str × Bool)) (fun p => .tup [.str p.1, .bl p.2]) (fun p => p.2) (fun p => .str p.1) (ρ0 := [.val (bkD rs), .val (dQ (dI (rs 0))), .val (dQ (dJ (rs 0))), .val (dQ (tA rs)), .val (dQ (tB rs)), .val (sideT a b), .val (.lst [.tup [.str "x", .bl (zI rs)], .tup [.str "y", .bl (zJ rs)], .tup [.str "first", .bl (b3 rs)], .tup [.str "second", .bl (b4 rs)], .tup [.str "first turn", .bl p5], .tup [.str "second turn", .bl p6]]), .un, .un, .un]) (by simp [-a_mFor, -a_mLc, -a_mWhile, -a_mCallM, mVar, a_gSet, a_gTup, a_gLst, a_gsC, a_gsN, asBl, ctOf, setCt, ctL, ctLen, frz, itemsOf, Ct.toD, size_le, wipeE]) (by simp) (by rfl) (fun p _ => by
      obtain ⟨w, q⟩ := p
      cases q <;> simp [-a_mFor, -a_mLc, -a_mWhile, -a_mCallM, mVar, a_gSet, a_gTup, a_gLst, a_gsC, a_gsN, asBl, ctOf, setCt, ctL, ctLen, frz, itemsOf, Ct.toD, size_le, wipeE])]
    simp only [bind_ok, ev_bind, ev_ok, a_mSet, a_mVal, a_mOfL, Ct.toD, wipeE, kd_c0, kd_c1, kdS_un, kdS_val, List.set_cons_succ, List.set_cons_zero, List.length_cons, List.length_nil]
    rw [if_pos (by decide)]
    simp only [ev_ok, sq_nxt, a_mRet, ev_bind]
    rw [told_ok (bd_words (zI rs) (zJ rs) (b3 rs) (b4 rs) p5 p6) rfl]
    exact ⟨_, rfl, _, rfl⟩
  refine fun_v rfl ?_
  unfold Mi.M__law_book_border
  cases a <;> cases b <;> simp [-a_mFor, -a_mLc, -a_mWhile, -a_mCallM, mVar, a_gSet, a_gTup, a_gLst, a_gsC, a_gsN, asBl, ctOf, setCt, ctL, ctLen, frz, itemsOf, Ct.toD, size_le, wipeE, hd, ht, ha, dq0, c1, c2, c3, c4, c5, c6, hd1, hd2, g0, g1, i1, i2, z2, z3, z4, z5, -a_mFrz]
  · exact fin false false
  · exact fin false (b6 rs)
  · exact fin (b5 rs) false
  · exact fin (b5 rs) (b6 rs)
end DF
namespace DF
open PySem PySem.Spec L2 Evl TL
/-! ### does the walk come home -/
def tK (rs : Nat → List Row) : Nat → Rat
  | 1 => tA rs
  | _ => tB rs
def homeL (rs : Nat → List Row) (a b : Bool) : Bool := (sideL a b).all fun k => decide ((tK rs k).num < 0)
def hmB (rs : Nat → List Row) : Bool := (ngJ rs || ngI rs) && homeL rs (ngJ rs) (ngI rs)
def lhB (rs : Nat → List Row) : Bool := !(decide (0 < (dI (rs 0)).num) && decide (0 < (dJ (rs 0)).num)) && homeL rs (ngJ rs && !zI rs) (ngI rs && !zJ rs)
def knL (rs : Nat → List Row) : List (Str × D) := [("first", dQ (tA rs)), ("second", dQ (tB rs))]
theorem known_ok (rs : Nat → List Row) : foldD (knL rs) = knL rs := by
  have h : ¬ (("first" : Str) = "second") := by decide +kernel
  simp [foldD, putD, h, knL]
theorem known_ix (rs : Nat → List Row) {k : Nat} (h : k = 1 ∨ k = 2) : opIx (.dct (knL rs)) (.str (regName k)) = some (dQ (tK rs k)) := by
  rcases h with rfl | rfl <;> rfl
theorem sideL_mem {a b : Bool} {k : Nat} (h : k ∈ sideL a b) : k = 1 ∨ k = 2 := by
  unfold sideL at h
  cases a <;> cases b <;> simp at h <;> omega
theorem all_bls (l : List Nat) (p : Nat → Bool) : fAll [.lst (l.map fun k => .bl (p k))] = some (.bl (l.all p)) := by
  have h : ∀ l : List Nat, blsOf (l.map fun k => .bl (p k)) = some (l.map p) := by
    intro l
    induction l with
    | nil => rfl
    | cons k l ih =>
      simp only [List.map_cons, blsOf, ih]
      rfl
  simp only [fAll, h, Option.map_some, List.all_map]
  rfl
theorem ne_none (a b : Bool) : opNe (sideT a b) (.tup []) = some (.bl (a || b)) := by
  have g0 : Good 1 (.tup []) := Good.tup (n := 0) (fun d hd => by cases hd)
  have gs : ∀ a b, Good 1 (sideT a b) := fun a b => Good.tup (n := 0) (fun d hd => by
    obtain ⟨k, _, rfl⟩ := List.mem_map.mp hd
    exact Good.str (reg_strOk k))
  by_cases h : a = false ∧ b = false
  · obtain ⟨rfl, rfl⟩ := h
    show (eqD (.tup []) (.tup [])).map _ = _
    rw [eqD_same (n := 1) (by decide) g0]
    rfl
  · unfold opNe
    rw [eqD_diff (n := 1) (by decide) (gs a b) g0 (fun z => h (by
      have := D.tup.inj z
      cases a <;> cases b <;> simp [sideL] at this ⊢))]
    cases a <;> cases b <;> simp at h ⊢
theorem tab_ok (rs : Nat → List Row) : dictOf (.lst [.tup [.str "first", dQ (tA rs)], .tup [.str "second", dQ (tB rs)]]) = some (knL rs) := rfl
theorem does_come_home_ok {rs : Nat → List Row} (h : BOk rs) (hp : bdD rs = .non) : Mi.m_does_come_home [.val (bkO rs)] = .ok (.bl (hmB rs), [.val (bkO rs)]) := by
  have ha := asked_sides_ok h
  have ht := turns_ok h
  have hb := border_ok h
  rw [hp] at hb
  have hc : Mi.m_check_plain [.val (bkO rs)] = .ok (.non, [.val (bkO rs)]) := by
    refine fun_n rfl ?_
    unfold Mi.M_check_plain
    simp [-a_mFor, -a_mLc, -a_mWhile, -a_mCallM, mVar, a_gSet, a_gTup, a_gLst, a_gsC, a_gsN, asBl, ctOf, setCt, ctL, ctLen, frz, itemsOf, Ct.toD, size_le, wipeE, hb, opIsNot, isNon]
  have hk : Mi.m_asked [.val (bkO rs)] = .ok (sideT (ngJ rs) (ngI rs), [.val (bkO rs)]) := by
    refine fun_v rfl ?_
    unfold Mi.M_asked
    simp [-a_mFor, -a_mLc, -a_mWhile, -a_mCallM, mVar, a_gSet, a_gTup, a_gLst, a_gsC, a_gsN, asBl, ctOf, setCt, ctL, ctLen, frz, itemsOf, Ct.toD, size_le, wipeE, hc, ha]
  have hn := ne_none (ngJ rs) (ngI rs)
  have hd := tab_ok rs
  have hf := known_ok rs
  have hz : fZ2 [.tup [.str "first", .str "second"], .tup [dQ (tA rs), dQ (tB rs)]] = some [.tup [.str "first", dQ (tA rs)], .tup [.str "second", dQ (tB rs)]] := rfl
  refine fun_v rfl ?_
  unfold Mi.M_does_come_home
  simp [-a_mFor, -a_mLc, -a_mWhile, -a_mCallM, mVar, a_gSet, a_gTup, a_gLst, a_gsC, a_gsN, asBl, ctOf, setCt, ctL, ctLen, frz, itemsOf, Ct.toD, size_le, wipeE, hk, a_mDictL, a_mListZ, ht, hz, hd, hf, hn]
  by_cases hs : (ngJ rs || ngI rs) = true
  · have hs' : ngJ rs = true ∨ ngI rs = true := by simpa using hs
    rw [if_pos (by simpa using hs)]
    rw [lc_map (sideL (ngJ rs) (ngI rs)) (fun k => .str (regName k)) (fun k => .bl (decide ((tK rs k).num < 0))) (ρ0 := [.val (bkO rs), .val (sideT (ngJ rs) (ngI rs)), .val (.dct (knL rs)), .un]) (by simp [-a_mFor, -a_mLc, -a_mWhile, -a_mCallM, mVar, a_gSet, a_gTup, a_gLst, a_gsC, a_gsN, asBl, ctOf, setCt, ctL, ctLen, frz, itemsOf, Ct.toD, size_le, wipeE, sideT]) (by cases ngJ rs <;> cases ngI rs <;> simp [sideL]) (by rfl) (fun k hk => by
      have hx := known_ix rs (sideL_mem hk)
      simp [-a_mFor, -a_mLc, -a_mWhile, -a_mCallM, mVar, a_gSet, a_gTup, a_gLst, a_gsC, a_gsN, asBl, ctOf, setCt, ctL, ctLen, frz, itemsOf, Ct.toD, size_le, wipeE, hx, dq0, opLt])]
    have hall := all_bls (sideL (ngJ rs) (ngI rs)) fun k => decide ((tK rs k).num < 0)
    simp [-a_mFor, -a_mLc, -a_mWhile, -a_mCallM, mVar, a_gSet, a_gTup, a_gLst, a_gsC, a_gsN, asBl, ctOf, setCt, ctL, ctLen, frz, itemsOf, Ct.toD, size_le, wipeE, hall, hmB, homeL, hs]
  · have hs' : (ngJ rs || ngI rs) = false := by simpa using hs
    rw [if_neg (by simpa using hs)]
    simp [-a_mFor, -a_mLc, -a_mWhile, -a_mCallM, mVar, a_gSet, a_gTup, a_gLst, a_gsC, a_gsN, asBl, ctOf, setCt, ctL, ctLen, frz, itemsOf, Ct.toD, size_le, wipeE, hmB, hs']
theorem plain_home {rs : Nat → List Row} (hp : bdD rs = .non) : lhB rs = hmB rs := by
  have z1 : zI rs = false := by
    cases h : zI rs with
    | false => rfl
    | true => unfold bdD bdL at hp; simp [firstW, h] at hp
  have z2 : zJ rs = false := by
    cases h : zJ rs with
    | false => rfl
    | true => unfold bdD bdL at hp; simp [firstW, h, z1] at hp
  unfold lhB hmB
  rw [z1, z2]
  have e : (!(decide (0 < (dI (rs 0)).num) && decide (0 < (dJ (rs 0)).num))) = (ngJ rs || ngI rs) := by
    unfold zI at z1
    unfold zJ at z2
    have n1 : (dI (rs 0)).num ≠ 0 := by simpa using z1
    have n2 : (dJ (rs 0)).num ≠ 0 := by simpa using z2
    unfold ngJ ngI
    have q : ∀ x : Int, x ≠ 0 → decide (0 < x) = !decide (x < 0) := fun x hx => by
      by_cases h : x < 0
      · have : ¬ 0 < x := by omega
        simp [h, this]
      · have : 0 < x := by omega
        simp [h, this]
    rw [q _ n1, q _ n2]
    cases decide ((dI (rs 0)).num < 0) <;> cases decide ((dJ (rs 0)).num < 0) <;> rfl
  rw [e]
  simp
end DF
namespace DF
open PySem PySem.Spec L2 Evl TL
/-! ### a book's text, equal books, shares -/
theorem text_okB (rs : Nat → List Row) : Mi.m_Book_text [.val (bkO rs)] = .ok (.str (bookText rs), [.val (bkO rs)]) := by
  have h : opSlot 0 1 (bkO rs) = some (.str (bookText rs)) := rfl
  refine fun_v rfl ?_
  unfold Mi.M_Book_text
  simp [-a_mFor, -a_mLc, -a_mWhile, -a_mCallM, mVar, a_gSet, a_gTup, a_gLst, a_gsC, a_gsN, asBl, ctOf, setCt, ctL, ctLen, frz, itemsOf, Ct.toD, size_le, wipeE, h]
theorem prop_ok {F ma : ME} {ρ r : Env} {rs : Nat → List Row} {d : D} (h : ma ρ = .ok (bkO rs, ρ)) (hF : F [.val (bkO rs)] = .ok (d, r)) : mProp 0 F ma ρ = .ok (d, ρ) := by
  have hF' : F [.val (.obj 0 [regsT rs, .str (bookText rs)])] = .ok (d, r) := hF
  unfold mProp
  rw [h]
  simp only [bind_ok, bkO, if_true, hF', okR_ok, lft_some]
theorem pt_ok {rs' : Nat → List Row} {i : Nat} {ρ : Env} (hi : ρ[i]? = some (.val (bkO rs'))) : mProp 0 Mi.m_Book_text (mVar i) ρ = .ok (.str (bookText rs'), ρ) := prop_ok (by unfold mVar; rw [hi]) (text_okB rs')
end DF
namespace DF
open PySem PySem.Spec L2 Evl TL
/-! ### books that are made: rows, and what lacks to 1 -/
theorem num_neg {x : Rat} : x.num < 0 ↔ x < 0 := by
  rw [← Rat.not_le, ← Rat.num_nonneg]
  omega
theorem num_pos {x : Rat} : 0 < x.num ↔ 0 < x := by
  have h1 := @Rat.num_nonneg x
  have h2 := @Rat.num_eq_zero x
  rw [Rat.lt_iff_le_and_ne, ← h1]
  constructor
  · intro h
    exact ⟨by omega, fun z => by have := h2.mpr z.symm; omega⟩
  · rintro ⟨h, k⟩
    have : x.num ≠ 0 := fun z => k (h2.mp z).symm
    omega
theorem num_zero {x : Rat} : x.num = 0 ↔ x = 0 := Rat.num_eq_zero
def rstR (st : List Row) : Rat := 1 - ls (fun r : Row => r.q) st
noncomputable def nzB (r : Row) : Bool := !@decide (r.q = 0) (Classical.propDecidable _)
noncomputable def rstL (q : Rat) : List Row := @ite _ (q = 0) (Classical.propDecidable _) [] [⟨0, 0, q⟩]
noncomputable def mkR (st : List Row) : List Row := st.filter nzB ++ rstL (rstR st)
/-- steps with their chances, (0, 0) none of them -/
structure Steps (lo : Int × Int) (st : List Row) : Prop where
  len : st.length ≤ 11
  nd : (st.map fun r => (r.i, r.j)).Nodup
  n0 : (0, 0) ∉ st.map fun r => (r.i, r.j)
  rng : ∀ r ∈ st, (lo.1 ≤ r.i ∧ r.i ≤ 3) ∧ (lo.2 ≤ r.j ∧ r.j ≤ 3)
  cd : ∃ W : Int, 0 < W ∧ W ≤ 900000 ∧ (∀ r ∈ st, ∃ w : Int, 0 ≤ w ∧ r.q = Rat.divInt w W)
  le : ls (fun r : Row => r.q) st ≤ 1
theorem nzB_iff {r : Row} : nzB r = true ↔ r.q ≠ 0 := by unfold nzB; simp
theorem ls_nz (f : Row → Rat) (h : ∀ r, r.q = 0 → f r = 0) : ∀ st : List Row, ls f (st.filter nzB) = ls f st
  | [] => rfl
  | r :: st => by
    by_cases hr : r.q = 0
    · have : ¬ nzB r = true := fun z => nzB_iff.mp z hr
      rw [List.filter_cons_of_neg this, ls_nz f h st, ls, h r hr, Rat.zero_add]
    · rw [List.filter_cons_of_pos (nzB_iff.mpr hr), ls, ls, ls_nz f h st]
theorem ls_rst (f : Row → Rat) (q : Rat) (h : q = 0 → f ⟨0, 0, q⟩ = 0) : ls f (rstL q) = f ⟨0, 0, q⟩ := by
  unfold rstL
  split
  · rename_i h0; rw [h h0]; rfl
  · rw [ls, ls, Rat.add_zero]
theorem mkR_ls (f : Row → Rat) (h : ∀ r, r.q = 0 → f r = 0) (st : List Row) : ls f (mkR st) = ls f st + f ⟨0, 0, rstR st⟩ := by
  unfold mkR
  rw [ls_append, ls_nz f h, ls_rst f _ fun z => h _ z]
theorem mkR_dI (st : List Row) : dI (mkR st) = ls (fun r : Row => (r.i : Rat) * r.q) st := by
  unfold dI
  rw [mkR_ls _ (fun r h => by rw [h, Rat.mul_zero])]
  show _ + ((0 : Int) : Rat) * _ = _
  rw [Rat.intCast_zero, Rat.zero_mul, Rat.add_zero]
theorem mkR_dJ (st : List Row) : dJ (mkR st) = ls (fun r : Row => (r.j : Rat) * r.q) st := by
  unfold dJ
  rw [mkR_ls _ (fun r h => by rw [h, Rat.mul_zero])]
  show _ + ((0 : Int) : Rat) * _ = _
  rw [Rat.intCast_zero, Rat.zero_mul, Rat.add_zero]
theorem divInt_nonneg {w W : Int} (hW : 0 < W) (h : 0 ≤ w) : 0 ≤ Rat.divInt w W := Rat.divInt_nonneg_iff_of_pos_right hW |>.mpr h
theorem ls_div {W : Int} (hW : 0 < W) : ∀ {st : List Row}, (∀ r ∈ st, ∃ w : Int, 0 ≤ w ∧ r.q = Rat.divInt w W) → ∃ s : Int, 0 ≤ s ∧ ls (fun r : Row => r.q) st = Rat.divInt s W ∧ ∀ r ∈ st, ∃ w : Int, 0 ≤ w ∧ w ≤ s ∧ r.q = Rat.divInt w W
  | [], _ => ⟨0, by omega, by simp [ls], by simp⟩
  | r :: st, h => by
    obtain ⟨s, h1, h2, h3⟩ := ls_div hW (st := st) fun x hx => h x (List.mem_cons_of_mem _ hx)
    obtain ⟨w, h4, h5⟩ := h r (List.mem_cons_self ..)
    refine ⟨w + s, by omega, by rw [ls, h2, h5, divInt_add_same (by omega)], fun x hx => ?_⟩
    rcases List.mem_cons.mp hx with e | e
    · exact ⟨w, h4, by omega, by rw [e, h5]⟩
    · obtain ⟨v, v1, v2, v3⟩ := h3 x e
      exact ⟨v, v1, by omega, v3⟩
theorem divInt_le {a b W : Int} (hW : 0 < W) : Rat.divInt a W ≤ Rat.divInt b W ↔ a ≤ b := by
  have e : Rat.divInt b W - Rat.divInt a W = Rat.divInt (b - a) W := by
    have h1 := divInt_add_same (a := b - a) (b := a) (W := W) (by omega)
    rw [show b - a + a = b by omega] at h1
    rw [← h1]
    grind
  rw [Rat.le_iff_sub_nonneg, e, Rat.divInt_nonneg_iff_of_pos_right hW]
  omega
theorem divInt_pos {w W : Int} (hW : 0 < W) (h0 : 0 ≤ w) (h : Rat.divInt w W ≠ 0) : 0 < w := by
  rcases Int.lt_or_eq_of_le h0 with z | z
  · exact z
  · rw [← z] at h; simp at h
theorem mkR_ok {lo : Int × Int} {st : List Row} (h : Steps lo st) (hlo : lo.1 ≤ 0 ∧ lo.2 ≤ 0) : RowsOk lo (mkR st) := by
  obtain ⟨W, hW, hW2, hw⟩ := h.cd
  obtain ⟨s, s0, s1, s2⟩ := ls_div hW hw
  have hone : ls (fun r : Row => r.q) (mkR st) = 1 := by
    rw [mkR_ls _ (fun r h => h)]
    show _ + rstR st = 1
    unfold rstR
    grind
  have hr : rstR st = Rat.divInt (W - s) W := by
    unfold rstR
    rw [s1]
    have : Rat.divInt (W - s) W + Rat.divInt s W = 1 := by
      rw [divInt_add_same (by omega), show W - s + s = W by omega, Rat.divInt_self' (by omega)]
    grind
  have hsW : s ≤ W := by
    have h1 : 0 ≤ rstR st := by
      have := h.le
      unfold rstR
      grind
    rw [hr, Rat.divInt_nonneg_iff_of_pos_right hW] at h1
    omega
  have hlen : (mkR st).length ≤ 12 := by
    unfold mkR rstL
    rw [List.length_append]
    have h1 := List.length_filter_le nzB st
    have h2 := h.len
    split <;> simp <;> omega
  refine ⟨⟨?_, hlen⟩, ?_, fun r hm => ?_, ⟨W, hW, hW2, fun r hm => ?_⟩, ?_⟩
  · cases hm : mkR st with
    | nil => rw [hm] at hone; exact absurd hone (by simp only [ls]; decide)
    | cons a l => simp
  · unfold mkR
    rw [List.map_append]
    have h1 : ((st.filter nzB).map fun r => (r.i, r.j)).Nodup := (List.Sublist.map _ (List.filter_sublist (l := st) (p := nzB))).nodup h.nd
    refine List.nodup_append.mpr ⟨h1, by unfold rstL; split <;> simp, fun a ha b hb z => h.n0 ?_⟩
    obtain ⟨r, hr1, hr2⟩ := List.mem_map.mp hb
    unfold rstL at hr1
    split at hr1
    · cases hr1
    · rw [List.mem_singleton.mp hr1] at hr2
      obtain ⟨r', h3, h4⟩ := List.mem_map.mp ha
      refine List.mem_map.mpr ⟨r', (List.mem_filter.mp h3).1, ?_⟩
      rw [h4, z, ← hr2]
  · unfold mkR at hm
    rcases List.mem_append.mp hm with hm | hm
    · exact h.rng r (List.mem_filter.mp hm).1
    · unfold rstL at hm
      split at hm
      · cases hm
      · rw [List.mem_singleton.mp hm]
        show (lo.1 ≤ 0 ∧ (0 : Int) ≤ 3) ∧ (lo.2 ≤ 0 ∧ (0 : Int) ≤ 3)
        omega
  · unfold mkR at hm
    rcases List.mem_append.mp hm with hm | hm
    · obtain ⟨h1, h2⟩ := List.mem_filter.mp hm
      obtain ⟨w, w0, w1, w2⟩ := s2 r h1
      have h3 := nzB_iff.mp h2
      rw [w2] at h3
      exact ⟨w, divInt_pos hW w0 h3, by omega, w2⟩
    · unfold rstL at hm
      split at hm
      · cases hm
      · rename_i h0
        rw [List.mem_singleton.mp hm]
        rw [hr] at h0
        exact ⟨W - s, divInt_pos hW (by omega) h0, by omega, hr⟩
  · rw [qsum_ls, ls_map]
    exact hone
/-! ### filled, made -/
def stpD (r : Row) : D := .tup [.tup [.int r.i, .int r.j], dQ r.q]
theorem st_qs {lo : Int × Int} {st : List Row} (h : Steps lo st) : ∀ r ∈ st, QB 20 r.q := fun r hr => by
  obtain ⟨W, hW, hW2, hw⟩ := h.cd
  obtain ⟨s, s0, s1, s2⟩ := ls_div hW hw
  obtain ⟨w, w0, w1, w2⟩ := s2 r hr
  have hsW : s ≤ W := by
    have h1 := h.le
    rw [s1] at h1
    have h2 : Rat.divInt s W ≤ Rat.divInt W W := by rw [Rat.divInt_self' (by omega)]; exact h1
    exact (divInt_le hW).mp h2
  rw [w2]
  exact divInt_qb (by omega) (by omega) (by omega)
theorem st_sum {st : List Row} (hl : st.length ≤ 11) (h : ∀ r ∈ st, QB 20 r.q) : QS (st.map (·.q)) ∧ QB 300 (ls (fun r : Row => r.q) st) := by
  have h1 := qs_of (qs := st.map (·.q)) (k := 20) (n := 11) (fun q hq => by
    obtain ⟨r, hr, rfl⟩ := List.mem_map.mp hq
    exact h r hr) (by simp; omega) (by decide)
  refine ⟨h1.1, ?_⟩
  have := qb_mono h1.2 (b := 300) (by decide)
  rw [qsum_ls, ls_map] at this
  exact this
theorem qb_one' : QB 4000 1 := qb_mono (a := 2) ⟨by decide, by decide⟩ (by decide)
theorem filled_ok {lo : Int × Int} {st : List Row} (h : Steps lo st) : Mi.m_filled [.val (.lst (st.map stpD))] = .ok (.lst (rowsD (mkR st)), [.val (.lst (st.map stpD))]) := by
  have hl := h.len
  obtain ⟨q1, q2⟩ := st_sum hl (st_qs h)
  have ht := m_total_ok q1
  have e1 : qsum (st.map (·.q)) = ls (fun r : Row => r.q) st := by rw [qsum_ls, ls_map]
  rw [e1, List.map_map] at ht
  have ht' : Mi.m_total [.val (.lst (st.map fun r => dQ r.q))] = .ok (dQ (ls (fun r : Row => r.q) st), [.val (.lst (st.map fun r => dQ r.q))]) := ht
  have hs : Mi.m_less [.val (.tup [.int 1, .int 1]), .val (dQ (ls (fun r : Row => r.q) st))] = .ok (dQ (rstR st), [.val (.tup [.int 1, .int 1]), .val (dQ (ls (fun r : Row => r.q) st))]) := m_less_ok (p := 1) qb_one' (qb_mono q2 (by decide))
  have hne : ∀ q : Rat, opNe (dQ q) (.tup [.int 0, .int 1]) = some (.bl (!@decide (q = 0) (Classical.propDecidable _))) := fun q => opNe_dQ q 0
  have heq : opEq (dQ (rstR st)) (.tup [.int 0, .int 1]) = some (.bl (@decide (rstR st = 0) (Classical.propDecidable _))) := opEq_dQ _ 0
  refine fun_v rfl ?_
  unfold Mi.M_filled
  simp [-a_mFor, -a_mLc, -a_mWhile, -a_mCallM, mVar, a_gSet, a_gTup, a_gLst, a_gsC, a_gsN, asBl, ctOf, setCt, ctL, ctLen, frz, itemsOf, Ct.toD, size_le, wipeE]
  rw [lc_fmap st stpD nzB rowD (ρ0 := [.val (.lst (st.map stpD)), .un, .un, .un, .un]) (by simp [-a_mFor, -a_mLc, -a_mWhile, -a_mCallM, mVar, a_gSet, a_gTup, a_gLst, a_gsC, a_gsN, asBl, ctOf, setCt, ctL, ctLen, frz, itemsOf, Ct.toD, size_le, wipeE]) (by omega) (by rfl) (fun r hr => by
    unfold stpD
    have g0 : opIx (.tup [.int r.i, .int r.j]) (.int 0) = some (.int r.i) := rfl
    have g1 : opIx (.tup [.int r.i, .int r.j]) (.int 1) = some (.int r.j) := rfl
    simp [-a_mFor, -a_mLc, -a_mWhile, -a_mCallM, mVar, a_gSet, a_gTup, a_gLst, a_gsC, a_gsN, asBl, ctOf, setCt, ctL, ctLen, frz, itemsOf, Ct.toD, size_le, wipeE, hne, g0, g1, rowD, nzB])]
  simp [-a_mFor, -a_mLc, -a_mWhile, -a_mCallM, mVar, a_gSet, a_gTup, a_gLst, a_gsC, a_gsN, asBl, ctOf, setCt, ctL, ctLen, frz, itemsOf, Ct.toD, size_le, wipeE]
  rw [lc_map st stpD (fun r => dQ r.q) (ρ0 := [.val (.lst (st.map stpD)), .val (.lst ((st.filter nzB).map rowD)), .un, .un, .un]) (by simp [-a_mFor, -a_mLc, -a_mWhile, -a_mCallM, mVar, a_gSet, a_gTup, a_gLst, a_gsC, a_gsN, asBl, ctOf, setCt, ctL, ctLen, frz, itemsOf, Ct.toD, size_le, wipeE]) (by omega) (by rfl) (fun r hr => by
    unfold stpD
    simp [-a_mFor, -a_mLc, -a_mWhile, -a_mCallM, mVar, a_gSet, a_gTup, a_gLst, a_gsC, a_gsN, asBl, ctOf, setCt, ctL, ctLen, frz, itemsOf, Ct.toD, size_le, wipeE])]
  simp [-a_mFor, -a_mLc, -a_mWhile, -a_mCallM, mVar, a_gSet, a_gTup, a_gLst, a_gsC, a_gsN, asBl, ctOf, setCt, ctL, ctLen, frz, itemsOf, Ct.toD, size_le, wipeE, ht', hs, heq]
  have hfl := List.length_filter_le nzB st
  have hsz : (st.filter nzB).length + 1 ≤ sizeLine := size_le (by omega)
  by_cases h0 : rstR st = 0
  · have hm : mkR st = st.filter nzB := by unfold mkR rstL; rw [if_pos h0, List.append_nil]
    simp [-a_mFor, -a_mLc, -a_mWhile, -a_mCallM, mVar, a_gSet, a_gTup, a_gLst, a_gsC, a_gsN, asBl, ctOf, setCt, ctL, ctLen, frz, itemsOf, Ct.toD, size_le, wipeE, h0, hm]
  · have hm : mkR st = st.filter nzB ++ [⟨0, 0, rstR st⟩] := by unfold mkR rstL; rw [if_neg h0]
    simp [-a_mFor, -a_mLc, -a_mWhile, -a_mCallM, mVar, a_gSet, a_gTup, a_gLst, a_gsC, a_gsN, asBl, ctOf, setCt, ctL, ctLen, frz, itemsOf, Ct.toD, size_le, wipeE, h0, hm, seqOf, hsz, rowD]
/-- the steps of all regions: what comes, and the services inside, in first, in second -/
def mdS (c f s b : List Row) : Nat → List Row
  | 0 => c ++ b | 1 => c ++ f | 2 => c ++ s | _ => c ++ []
noncomputable def mdR (c f s b : List Row) : Nat → List Row := fun k => mkR (mdS c f s b k)
theorem mdR_ok {c f s b : List Row} (h : ∀ k, k < 4 → Steps (regLow k) (mdS c f s b k)) : BOk (mdR c f s b) := fun k hk => mkR_ok (h k hk) (by have := regLow_rng k; omega)
theorem made_ok {c f s b : List Row} (h : ∀ k, k < 4 → Steps (regLow k) (mdS c f s b k)) : Mi.m_made [.val (.lst (c.map stpD)), .val (.lst (f.map stpD)), .val (.lst (s.map stpD)), .val (.lst (b.map stpD))] = .ok (bkO (mdR c f s b), [.val (.lst (c.map stpD)), .val (.lst (f.map stpD)), .val (.lst (s.map stpD)), .val (.lst (b.map stpD))]) := by
  have hb := mdR_ok h
  have hbk := book_of_ok hb (S := .lst [.lst (rowsD (mdR c f s b 0)), .lst (rowsD (mdR c f s b 1)), .lst (rowsD (mdR c f s b 2)), .lst (rowsD (mdR c f s b 3))]) (Ss := fun k => .lst (rowsD (mdR c f s b k))) (Seqs.lst _) (fun k _ => Seqs.lst _)
  let X : Nat → List Row := fun k => match k with | 0 => b | 1 => f | 2 => s | _ => []
  have hX : ∀ k, k < 4 → mdS c f s b k = c ++ X k := fun k hk => four (P := fun k => mdS c f s b k = c ++ X k) hk rfl rfl rfl rfl
  refine fun_v rfl ?_
  unfold Mi.M_made
  simp [-a_mFor, -a_mLc, -a_mWhile, -a_mCallM, mVar, a_gSet, a_gTup, a_gLst, a_gsC, a_gsN, asBl, ctOf, setCt, ctL, ctLen, frz, itemsOf, Ct.toD, size_le, wipeE]
  rw [lc_map [0, 1, 2, 3] (fun k => .lst ((X k).map stpD)) (fun k => .lst (rowsD (mdR c f s b k))) (ρ0 := [.val (.lst (c.map stpD)), .val (.lst (f.map stpD)), .val (.lst (s.map stpD)), .val (.lst (b.map stpD)), .un]) (by simp [-a_mFor, -a_mLc, -a_mWhile, -a_mCallM, mVar, a_gSet, a_gTup, a_gLst, a_gsC, a_gsN, asBl, ctOf, setCt, ctL, ctLen, frz, itemsOf, Ct.toD, size_le, wipeE, X]) (by simp) (by rfl) (fun k hk => by
    have hk4 : k < 4 := by simp at hk; omega
    have hf := filled_ok (h k hk4)
    have hl := (h k hk4).len
    rw [hX k hk4, List.map_append] at hf
    rw [hX k hk4, List.length_append] at hl
    have hsz : c.length + (X k).length ≤ sizeLine := size_le (by omega)
    have hm : mkR (c ++ X k) = mdR c f s b k := by unfold mdR; rw [hX k hk4]
    rw [hm] at hf
    simp [-a_mFor, -a_mLc, -a_mWhile, -a_mCallM, mVar, a_gSet, a_gTup, a_gLst, a_gsC, a_gsN, asBl, ctOf, setCt, ctL, ctLen, frz, itemsOf, Ct.toD, size_le, wipeE, seqOf, hsz, hf])]
  simp [-a_mFor, -a_mLc, -a_mWhile, -a_mCallM, mVar, a_gSet, a_gTup, a_gLst, a_gsC, a_gsN, asBl, ctOf, setCt, ctL, ctLen, frz, itemsOf, Ct.toD, size_le, wipeE, hbk]
theorem coming_ok (a b : Rat) : Mi.m_coming_of [.val (dQ a), .val (dQ b)] = .ok (.lst (([⟨1, 0, a⟩, ⟨0, 1, b⟩] : List Row).map stpD), [.val (dQ a), .val (dQ b)]) := by
  refine fun_v rfl ?_
  unfold Mi.M_coming_of
  simp [-a_mFor, -a_mLc, -a_mWhile, -a_mCallM, mVar, a_gSet, a_gTup, a_gLst, a_gsC, a_gsN, asBl, ctOf, setCt, ctL, ctLen, frz, itemsOf, Ct.toD, size_le, wipeE, stpD]
/-! ### chances, shares -/
theorem is_size_ok (q : Rat) : Mi.m_is_size [.val (dQ q)] = .ok (.bl (decide (0 < q.num)), [.val (dQ q)]) := by
  have h := is_ratio_ok q
  refine fun_v rfl ?_
  unfold Mi.M_is_size
  simp [-a_mFor, -a_mLc, -a_mWhile, -a_mCallM, mVar, a_gSet, a_gTup, a_gLst, a_gsC, a_gsN, asBl, ctOf, setCt, ctL, ctLen, frz, itemsOf, Ct.toD, size_le, wipeE, h, dq0, opGt]
theorem is_rate_ok (q : Rat) : Mi.m_is_rate [.val (dQ q)] = .ok (.bl (decide (0 ≤ q.num)), [.val (dQ q)]) := by
  have h := is_ratio_ok q
  refine fun_v rfl ?_
  unfold Mi.M_is_rate
  simp [-a_mFor, -a_mLc, -a_mWhile, -a_mCallM, mVar, a_gSet, a_gTup, a_gLst, a_gsC, a_gsN, asBl, ctOf, setCt, ctL, ctLen, frz, itemsOf, Ct.toD, size_le, wipeE, h, dq0, opGe]
theorem dq1 (q : Rat) : opIx (dQ q) (.int 1) = some (.int q.den) := rfl
theorem is_below_ok {p q : Rat} (hp : QB 4000 p) (hq : QB 4000 q) : Mi.m_is_below [.val (dQ p), .val (dQ q)] = .ok (.bl (decide (p < q)), [.val (dQ p), .val (dQ q)]) := by
  have e : decide (p < q) = decide (p.num * q.den < q.num * p.den) := decide_eq_decide.mpr (Rat.lt_iff p q)
  refine fun_v rfl ?_
  unfold Mi.M_is_below
  simp [-a_mFor, -a_mLc, -a_mWhile, -a_mCallM, mVar, a_gSet, a_gTup, a_gLst, a_gsC, a_gsN, asBl, ctOf, setCt, ctL, ctLen, frz, itemsOf, Ct.toD, size_le, wipeE, dq0, dq1, opMul_ok hp.smn hq.smd, opMul_ok hq.smn hp.smd, opLt, e]
theorem check_part_ok {q : Rat} (hq : QB 4000 q) (h0 : 0 ≤ q) (h1 : q ≤ 1) : Mi.m_check_part [.val (dQ q)] = .ok (.non, [.val (dQ q)]) := by
  have hb : Mi.m_is_below [.val (.tup [.int 1, .int 1]), .val (dQ q)] = .ok (.bl (decide (1 < q)), [.val (.tup [.int 1, .int 1]), .val (dQ q)]) := is_below_ok (p := 1) qb_one' hq
  have hn : ¬ (1 < q) := by grind
  have h0' : 0 ≤ q.num := Rat.num_nonneg.mpr h0
  have hr := is_rate_ok q
  have hp : Mi.m_is_part [.val (dQ q)] = .ok (.bl true, [.val (dQ q)]) := by
    refine fun_v rfl ?_
    unfold Mi.M_is_part
    simp [-a_mFor, -a_mLc, -a_mWhile, -a_mCallM, mVar, a_gSet, a_gTup, a_gLst, a_gsC, a_gsN, asBl, ctOf, setCt, ctL, ctLen, frz, itemsOf, Ct.toD, size_le, wipeE, hr, h0', hb, hn]
  refine fun_n rfl ?_
  unfold Mi.M_check_part
  simp [-a_mFor, -a_mLc, -a_mWhile, -a_mCallM, mVar, a_gSet, a_gTup, a_gLst, a_gsC, a_gsN, asBl, ctOf, setCt, ctL, ctLen, frz, itemsOf, Ct.toD, size_le, wipeE, hp]
theorem total_tup {qs : List Rat} (h : QS qs) : Mi.m_total [.val (.tup (qs.map dQ))] = .ok (dQ (qsum qs), [.val (.tup (qs.map dQ))]) := by
  obtain ⟨ρ', e, hI⟩ := forGo_inv (g := gSet 2) (mb := mSet 1 (mVal (mCall Mi.m_plus (mCons (mVar 1) (mCons (mVar 2) (mNil)))))) (ds := qs.map dQ) (fun i ρ => ∃ s, isPl s = true ∧ ρ = [.val (.tup (qs.map dQ)), .val (dQ (qsum (qs.take i))), s])
    [.val (.tup (qs.map dQ)), .val (dQ 0), .un] ⟨.un, rfl, rfl⟩ (fun i d ρ hd hI => by
      obtain ⟨s, hs, rfl⟩ := hI
      rw [List.getElem?_map] at hd
      obtain ⟨q, hq, rfl⟩ := Option.map_eq_some_iff.mp hd
      have hk : kd [.val (.tup (qs.map dQ)), .val (dQ (qsum (qs.take i))), s] 2 ≠ 2 := by cases s <;> simp [kd, isPl] at hs ⊢
      refine ⟨[.val (.tup (qs.map dQ)), .val (dQ (qsum (qs.take i))), .val (dQ q)], by unfold gSet; rw [if_pos hk]; rfl, _, ?_, .val (dQ q), rfl, rfl⟩
      have := m_plus_ok (h.2 i) (h.1 q (List.mem_of_getElem? hq))
      simp [mVar, this, kd]
      rw [← qsum_take hq])
  obtain ⟨s, hs, rfl⟩ := hI
  refine fun_ret (ρ' := [.val (.tup (qs.map dQ)), .val (dQ (qsum (qs.take (qs.map dQ).length))), s]) rfl ?_
  have ht : qs.take (qs.map dQ).length = qs := by simp
  rw [ht] at e ⊢
  refine (seq_nxt (ρ' := [.val (.tup (qs.map dQ)), .val (dQ 0), .un]) ?_).trans ((seq_nxt (ρ' := [.val (.tup (qs.map dQ)), .val (dQ (qsum qs)), s]) ?_).trans ?_)
  · simp [kd, size_le]; rfl
  · simp [itemsOf]; exact e
  · simp [mVar]
theorem check_chances_ok {qs : List Rat} (hl : qs.length ≤ 100) (h : QS qs) (h0 : ∀ q ∈ qs, 0 < q) (h1 : ls (fun q => q) qs = 1) : Mi.m_check_chances [.val (.tup (qs.map dQ))] = .ok (.non, [.val (.tup (qs.map dQ))]) := by
  have ht := total_tup h
  rw [qsum_ls, h1] at ht
  have hne : opNe (dQ 1) (.tup [.int 1, .int 1]) = some (.bl false) := by
    have h := opNe_dQ 1 1
    refine Eq.trans (b := opNe (dQ 1) (dQ 1)) rfl ?_
    rw [h]; simp
  refine fun_n rfl ?_
  unfold Mi.M_check_chances
  simp [-a_mFor, -a_mLc, -a_mWhile, -a_mCallM, mVar, a_gSet, a_gTup, a_gLst, a_gsC, a_gsN, asBl, ctOf, setCt, ctL, ctLen, frz, itemsOf, Ct.toD, size_le, wipeE]
  rw [lc_map qs dQ (fun _ => .bl true) (ρ0 := [.val (.tup (qs.map dQ)), .un]) (by simp [-a_mFor, -a_mLc, -a_mWhile, -a_mCallM, mVar, a_gSet, a_gTup, a_gLst, a_gsC, a_gsN, asBl, ctOf, setCt, ctL, ctLen, frz, itemsOf, Ct.toD, size_le, wipeE]) (by omega) (by rfl) (fun q hq => by
    have h2 := is_size_ok q
    have h3 : 0 < q.num := num_pos.mpr (h0 q hq)
    simp [-a_mFor, -a_mLc, -a_mWhile, -a_mCallM, mVar, a_gSet, a_gTup, a_gLst, a_gsC, a_gsN, asBl, ctOf, setCt, ctL, ctLen, frz, itemsOf, Ct.toD, size_le, wipeE, h2, h3])]
  have ha : fAll [.lst (qs.map fun _ => .bl true)] = some (.bl true) := by
    rw [List.map_const']; exact all_true _
  simp [-a_mFor, -a_mLc, -a_mWhile, -a_mCallM, mVar, a_gSet, a_gTup, a_gLst, a_gsC, a_gsN, asBl, ctOf, setCt, ctL, ctLen, frz, itemsOf, Ct.toD, size_le, wipeE, ha, ht, hne]
/-! ### the law's rows -/
theorem law_rows_ok {lo : Int × Int} {st : List Row} (h : Steps lo st) : Mi.m__law_rows [.val (.lst (rowsD st))] = .ok (.lst (rowsD (mkR st)), [.val (.lst (rowsD st))]) := by
  have hl := h.len
  have hfl := List.length_filter_le nzB st
  obtain ⟨q1, q2⟩ := st_sum (st := st.filter nzB) (by omega) (fun r hr => st_qs h r (List.mem_filter.mp hr).1)
  have ht := m__law_frac_sum_ok q1
  have e1 : qsum ((st.filter nzB).map (·.q)) = ls (fun r : Row => r.q) st := by rw [qsum_ls, ls_map]; exact ls_nz _ (fun _ h => h) st
  rw [ls_nz _ (fun _ h => h)] at q2
  rw [e1, List.map_map] at ht
  have ht' : Mi.m__law_frac_sum [.val (.lst ((st.filter nzB).map fun r => dQ r.q))] = .ok (dQ (ls (fun r : Row => r.q) st), [.val (.lst ((st.filter nzB).map fun r => dQ r.q))]) := ht
  have hs : Mi.m__law_frac_less [.val (.tup [.int 1, .int 1]), .val (dQ (ls (fun r : Row => r.q) st))] = .ok (dQ (rstR st), [.val (.tup [.int 1, .int 1]), .val (dQ (ls (fun r : Row => r.q) st))]) := m__law_frac_less_ok (p := 1) qb_one' (qb_mono q2 (by decide))
  have hne : ∀ q : Rat, opNe (dQ q) (.tup [.int 0, .int 1]) = some (.bl (!@decide (q = 0) (Classical.propDecidable _))) := fun q => opNe_dQ q 0
  have r2 : ∀ r : Row, opIx (rowD r) (.int 2) = some (dQ r.q) := fun _ => rfl
  refine fun_v rfl ?_
  unfold Mi.M__law_rows
  simp [-a_mFor, -a_mLc, -a_mWhile, -a_mCallM, mVar, a_gSet, a_gTup, a_gLst, a_gsC, a_gsN, asBl, ctOf, setCt, ctL, ctLen, frz, itemsOf, Ct.toD, size_le, wipeE]
  rw [lc_fmap st rowD nzB rowD (ρ0 := [.val (.lst (rowsD st)), .un, .un, .un]) (by simp [-a_mFor, -a_mLc, -a_mWhile, -a_mCallM, mVar, a_gSet, a_gTup, a_gLst, a_gsC, a_gsN, asBl, ctOf, setCt, ctL, ctLen, frz, itemsOf, Ct.toD, size_le, wipeE]) (by omega) (by rfl) (fun r hr => by
    simp [-a_mFor, -a_mLc, -a_mWhile, -a_mCallM, mVar, a_gSet, a_gTup, a_gLst, a_gsC, a_gsN, asBl, ctOf, setCt, ctL, ctLen, frz, itemsOf, Ct.toD, size_le, wipeE, hne, r2, nzB])]
  simp [-a_mFor, -a_mLc, -a_mWhile, -a_mCallM, mVar, a_gSet, a_gTup, a_gLst, a_gsC, a_gsN, asBl, ctOf, setCt, ctL, ctLen, frz, itemsOf, Ct.toD, size_le, wipeE]
  rw [lc_map (st.filter nzB) rowD (fun r => dQ r.q) (ρ0 := [.val (.lst (rowsD st)), .val (.lst (rowsD (st.filter nzB))), .un, .un]) (by simp [-a_mFor, -a_mLc, -a_mWhile, -a_mCallM, mVar, a_gSet, a_gTup, a_gLst, a_gsC, a_gsN, asBl, ctOf, setCt, ctL, ctLen, frz, itemsOf, Ct.toD, size_le, wipeE]) (by omega) (by rfl) (fun r hr => by
    simp [-a_mFor, -a_mLc, -a_mWhile, -a_mCallM, mVar, a_gSet, a_gTup, a_gLst, a_gsC, a_gsN, asBl, ctOf, setCt, ctL, ctLen, frz, itemsOf, Ct.toD, size_le, wipeE, r2])]
  simp [-a_mFor, -a_mLc, -a_mWhile, -a_mCallM, mVar, a_gSet, a_gTup, a_gLst, a_gsC, a_gsN, asBl, ctOf, setCt, ctL, ctLen, frz, itemsOf, Ct.toD, size_le, wipeE, ht', hs, hne]
  have hsz : (st.filter nzB).length + 1 ≤ sizeLine := size_le (by omega)
  have hsz' : (st.filter nzB).length ≤ sizeLine := size_le (by omega)
  by_cases h0 : rstR st = 0
  · have hm : mkR st = st.filter nzB := by unfold mkR rstL; rw [if_pos h0, List.append_nil]
    simp [-a_mFor, -a_mLc, -a_mWhile, -a_mCallM, mVar, a_gSet, a_gTup, a_gLst, a_gsC, a_gsN, asBl, ctOf, setCt, ctL, ctLen, frz, itemsOf, Ct.toD, size_le, wipeE, h0, hm, opAdd, hsz']
  · have hm : mkR st = st.filter nzB ++ [⟨0, 0, rstR st⟩] := by unfold mkR rstL; rw [if_neg h0]
    simp [-a_mFor, -a_mLc, -a_mWhile, -a_mCallM, mVar, a_gSet, a_gTup, a_gLst, a_gsC, a_gsN, asBl, ctOf, setCt, ctL, ctLen, frz, itemsOf, Ct.toD, size_le, wipeE, h0, hm, opAdd, hsz, rowD]
end DF
namespace DF
open PySem PySem.Spec L2 Evl TL
theorem den0w (q : Rat) : (q.den : Int) ≠ 0 := by have := q.den_pos; omega
theorem divInt_div (p q : Rat) (hq : q ≠ 0) : Rat.divInt (p.num * q.den) (p.den * q.num) = p / q := by
  have hn : q.num ≠ 0 := fun z => hq (Rat.num_eq_zero.mp z)
  have hp : (p.den : Int) ≠ 0 := den0w p
  have hd : (q.den : Int) ≠ 0 := den0w q
  have e : q * Rat.divInt q.den q.num = 1 := by
    conv => lhs; lhs; rw [← Rat.num_divInt_den q]
    rw [Rat.divInt_mul_divInt, Int.mul_comm (q.den : Int), Rat.divInt_self' (Int.mul_ne_zero hn hd)]
  have e2 : Rat.divInt q.den q.num = q⁻¹ := by
    have : q⁻¹ * (q * Rat.divInt q.den q.num) = q⁻¹ * 1 := by rw [e]
    rw [← Rat.mul_assoc, Rat.inv_mul_cancel q hq, Rat.one_mul, Rat.mul_one] at this
    exact this
  rw [Rat.div_def, ← e2]
  conv => rhs; lhs; rw [← Rat.num_divInt_den p]
  rw [Rat.divInt_mul_divInt]
theorem sd_over {p q : Rat} (hp : QB 4000 p) (hq : QB 4000 q) (h0 : q ≠ 0) : Sd ((p.den : Int) * q.num) := by
  have hn : q.num ≠ 0 := fun z => h0 (Rat.num_eq_zero.mp z)
  refine ⟨Int.mul_ne_zero (den0w p) hn, ?_⟩
  rw [Int.natAbs_mul]
  have h1 : ((p.den : Int).natAbs) < 2 ^ 4000 := hp.den
  exact pow_big (a := 8000) (mul_big h1 hq.num) (by decide)
theorem law_over_ok {p q : Rat} (hp : QB 4000 p) (hq : QB 4000 q) (h0 : q ≠ 0) : Mi.m__law_frac_over [.val (dQ p), .val (dQ q)] = .ok (dQ (p / q), [.val (dQ p), .val (dQ q)]) := by
  have p0 : opIx (dQ p) (.int 0) = some (.int p.num) := rfl
  have p1 : opIx (dQ p) (.int 1) = some (.int p.den) := rfl
  have q0 : opIx (dQ q) (.int 0) = some (.int q.num) := rfl
  have q1 : opIx (dQ q) (.int 1) = some (.int q.den) := rfl
  have hf := m__law_frac_ok (a := p.num * q.den) (sd_over hp hq h0)
  rw [divInt_div p q h0] at hf
  refine fun_v rfl ?_
  unfold Mi.M__law_frac_over
  simp [-a_mFor, -a_mLc, -a_mWhile, -a_mCallM, mVar, a_gSet, a_gTup, a_gLst, a_gsC, a_gsN, asBl, ctOf, setCt, ctL, ctLen, frz, itemsOf, Ct.toD, size_le, wipeE, p0, p1, q0, q1, opMul_ok hp.smn hq.smd, opMul_ok hp.smd hq.smn, hf]
theorem QB.div' {a b : Nat} {p q : Rat} (h : QB a p) (k : QB b q) (h0 : q ≠ 0) : QB (a + b) (p / q) := by
  rw [← divInt_div p q h0]
  have hn : q.num ≠ 0 := fun z => h0 (Rat.num_eq_zero.mp z)
  refine divInt_qb (Int.mul_ne_zero (den0w p) hn) ?_ ?_
  · rw [Int.natAbs_mul, Nat.pow_add]; exact Nat.mul_lt_mul'' h.num k.den
  · rw [Int.natAbs_mul, Nat.pow_add]; exact Nat.mul_lt_mul'' h.den k.num
end DF
namespace DF
open PySem PySem.Spec L2 Evl TL
theorem over_ok {p q : Rat} (hp : QB 4000 p) (hq : QB 4000 q) (h0 : q ≠ 0) : Mi.m_over [.val (dQ p), .val (dQ q)] = .ok (dQ (p / q), [.val (dQ p), .val (dQ q)]) := by
  have p0 : opIx (dQ p) (.int 0) = some (.int p.num) := rfl
  have p1 : opIx (dQ p) (.int 1) = some (.int p.den) := rfl
  have q0 : opIx (dQ q) (.int 0) = some (.int q.num) := rfl
  have q1 : opIx (dQ q) (.int 1) = some (.int q.den) := rfl
  have hf := m_ratio_ok (a := p.num * q.den) (sd_over hp hq h0)
  rw [divInt_div p q h0] at hf
  refine fun_v rfl ?_
  unfold Mi.M_over
  simp [-a_mFor, -a_mLc, -a_mWhile, -a_mCallM, mVar, a_gSet, a_gTup, a_gLst, a_gsC, a_gsN, asBl, ctOf, setCt, ctL, ctLen, frz, itemsOf, Ct.toD, size_le, wipeE, p0, p1, q0, q1, opMul_ok hp.smn hq.smd, opMul_ok hp.smd hq.smn, hf]
end DF
namespace DF
open PySem PySem.Spec L2 Evl TL
/-! ### drawn parts of 1 -/
def PartI (n k i : Nat) (acc : List D) (ρ : Env) : Prop := ∃ (ws : List Int) (pot' : List D), acc = ws.map .int ∧ (∀ w ∈ ws, 1 ≤ w ∧ w ≤ 8) ∧ ws.length = i ∧ PotOk (n + i) pot' ∧ ρ = [.pin (.lst pot'), .val (.int k), .un, .un, .un]
def PartQ (n k : Nat) (d : D) (c' : Ct) : Prop := ∃ (ws : List Int) (pot' : List D), d = .lst ((ws.map fun w => Rat.divInt w ws.sum).map dQ) ∧ c' = .lst pot' ∧ ws.length = k ∧ (∀ w ∈ ws, 1 ≤ w ∧ w ≤ 8) ∧ PotOk (n + k) pot'
theorem law_parts_ok {n k : Nat} {pot : List D} (h : PotOk n pot) (hn : n + k < 2 ^ 60) (hk : 0 < k ∧ k ≤ 10) :
    ∃ (ws : List Int) (pot' : List D), Mi.m__law_parts [.pin (.lst pot), .val (.int k)] = .ok (.lst ((ws.map fun w => Rat.divInt w ws.sum).map dQ), [.pin (.lst pot'), .val (.int k)]) ∧ ws.length = k ∧ (∀ w ∈ ws, 1 ≤ w ∧ w ≤ 8) ∧ PotOk (n + k) pot' := by
  suffices hh : ∃ d c', Mi.m__law_parts [.pin (.lst pot), .val (.int k)] = .ok (d, [.pin c', .val (.int k)]) ∧ PartQ n k d c' by
    obtain ⟨d, c', e, ws, pot', rfl, rfl, h1⟩ := hh
    exact ⟨ws, pot', e, h1⟩
  refine fun_p rfl ?_
  unfold Mi.M__law_parts
  simp [-a_mFor, -a_mLc, -a_mWhile, -a_mCallM, mVar, a_gSet, a_gTup, a_gLst, a_gsC, a_gsN, asBl, ctOf, setCt, ctL, ctLen, frz, itemsOf, Ct.toD, size_le, wipeE]
  refine ev_lc (ds := rngD 0 k) (ρ0 := [.pin (.lst pot), .val (.int k), .un, .un, .un]) (PartI n k)
    (it_rng1 (by simp [-a_mFor, -a_mLc, -a_mWhile, -a_mCallM, mVar, a_gSet, a_gTup, a_gLst, a_gsC, a_gsN, asBl, ctOf, setCt, ctL, ctLen, frz, itemsOf, Ct.toD, size_le, wipeE]) (by omega)) (by simp [rngD]; omega) (by rfl) ⟨[], pot, rfl, by simp, rfl, h, rfl⟩ (fun i d acc ρ hd ha hI => ?_) (fun ys ρ' hy hI => ?_)
  · obtain ⟨ws, pot', rfl, h1, h2, h3, rfl⟩ := hI
    obtain ⟨hik, rfl⟩ := rngD_get hd
    simp [-a_mFor, -a_mLc, -a_mWhile, -a_mCallM, mVar, a_gSet, a_gTup, a_gLst, a_gsC, a_gsN, asBl, ctOf, setCt, ctL, ctLen, frz, itemsOf, Ct.toD, size_le, wipeE]
    refine ev_take h3 (by rfl) (by decide) (by decide) (by omega) fun x pot2 x0 x1 p2 => ?_
    simp [-a_mFor, -a_mLc, -a_mWhile, -a_mCallM, mVar, a_gSet, a_gTup, a_gLst, a_gsC, a_gsN, asBl, ctOf, setCt, ctL, ctLen, frz, itemsOf, Ct.toD, size_le, wipeE, opAdd]
    refine ⟨ws ++ [1 + x], pot2, by simp, fun w hw => ?_, by simp [h2], p2, rfl⟩
    rcases List.mem_append.mp hw with e | e
    · exact h1 w e
    · rw [List.mem_singleton.mp e]; omega
  · obtain ⟨ws, pot', rfl, h1, h2, h3, rfl⟩ := hI
    have hlk : (rngD 0 k).length = k := by simp [rngD]
    rw [hlk] at h2 h3
    have hsum : ∀ l : List Int, (∀ w ∈ l, 1 ≤ w ∧ w ≤ 8) → (l.length : Int) ≤ l.sum ∧ l.sum ≤ 8 * l.length := fun l => by
      induction l with
      | nil => intro _; simp
      | cons a l ih =>
        intro hl
        have := ih fun x hx => hl x (List.mem_cons_of_mem _ hx)
        have := hl a (List.mem_cons_self ..)
        simp only [List.sum_cons, List.length_cons]
        omega
    have hs := hsum ws h1
    rw [h2] at hs
    have hsd : Sd ws.sum := sd_small (by omega) (by omega)
    have hfs : fSum [.lst (ws.map D.int)] = some (.int ws.sum) := by simp [fSum, intsOf_map]
    simp [-a_mFor, -a_mLc, -a_mWhile, -a_mCallM, mVar, a_gSet, a_gTup, a_gLst, a_gsC, a_gsN, asBl, ctOf, setCt, ctL, ctLen, frz, itemsOf, Ct.toD, size_le, wipeE]
    rw [lc_map ws D.int (fun w => dQ (Rat.divInt w ws.sum)) (ρ0 := [.pin (.lst pot'), .val (.int k), .val (.lst (ws.map D.int)), .un, .un]) (by simp [-a_mFor, -a_mLc, -a_mWhile, -a_mCallM, mVar, a_gSet, a_gTup, a_gLst, a_gsC, a_gsN, asBl, ctOf, setCt, ctL, ctLen, frz, itemsOf, Ct.toD, size_le, wipeE]) (by omega) (by rfl) (fun w hw => by
      have hf := m__law_frac_ok (a := w) hsd
      simp [-a_mFor, -a_mLc, -a_mWhile, -a_mCallM, mVar, a_gSet, a_gTup, a_gLst, a_gsC, a_gsN, asBl, ctOf, setCt, ctL, ctLen, frz, itemsOf, Ct.toD, size_le, wipeE, hfs, hf])]
    simp [-a_mFor, -a_mLc, -a_mWhile, -a_mCallM, mVar, a_gSet, a_gTup, a_gLst, a_gsC, a_gsN, asBl, ctOf, setCt, ctL, ctLen, frz, itemsOf, Ct.toD, size_le, wipeE]
    exact ⟨_, _, ⟨rfl, rfl⟩, ws, pot', by rw [List.map_map]; rfl, rfl, h2, h1, h3⟩
end DF
namespace DF
open PySem PySem.Spec L2 Evl TL
/-! ### a drawn part -/
def PartR (n : Nat) (d : D) (c' : Ct) : Prop := ∃ (s t : Int) (pot' : List D), d = dQ (Rat.divInt s t) ∧ c' = .lst pot' ∧ 1 ≤ t ∧ t ≤ 6 ∧ 0 ≤ s ∧ s ≤ t ∧ PotOk (n + 2) pot'
theorem law_part_ok {n : Nat} {pot : List D} (h : PotOk n pot) (hn : n + 2 < 2 ^ 60) :
    ∃ (s t : Int) (pot' : List D), Mi.m__law_part [.pin (.lst pot)] = .ok (dQ (Rat.divInt s t), [.pin (.lst pot')]) ∧ 1 ≤ t ∧ t ≤ 6 ∧ 0 ≤ s ∧ s ≤ t ∧ PotOk (n + 2) pot' := by
  suffices hh : ∃ d c', Mi.m__law_part [.pin (.lst pot)] = .ok (d, [.pin c']) ∧ PartR n d c' by
    obtain ⟨d, c', e, s, t, pot', rfl, rfl, h1⟩ := hh
    exact ⟨s, t, pot', e, h1⟩
  refine fun_p rfl ?_
  unfold Mi.M__law_part
  simp [-a_mFor, -a_mLc, -a_mWhile, -a_mCallM, mVar, a_gSet, a_gTup, a_gLst, a_gsC, a_gsN, asBl, ctOf, setCt, ctL, ctLen, frz, itemsOf, Ct.toD, size_le, wipeE]
  refine ev_take h (by rfl) (by decide) (by decide) (by omega) fun x pot2 x0 x1 p2 => ?_
  simp [-a_mFor, -a_mLc, -a_mWhile, -a_mCallM, mVar, a_gSet, a_gTup, a_gLst, a_gsC, a_gsN, asBl, ctOf, setCt, ctL, ctLen, frz, itemsOf, Ct.toD, size_le, wipeE, opAdd]
  refine ev_take (u := 1 + x + 1) p2 (by simp [-a_mFor, -a_mLc, -a_mWhile, -a_mCallM, mVar, a_gSet, a_gTup, a_gLst, a_gsC, a_gsN, asBl, ctOf, setCt, ctL, ctLen, frz, itemsOf, Ct.toD, size_le, wipeE, opAdd]) (by omega) (by omega) (by omega) fun y pot3 y0 y1 p3 => ?_
  have hf := m__law_frac_ok (a := y) (b := 1 + x) (sd_small (by omega) (by omega))
  simp [-a_mFor, -a_mLc, -a_mWhile, -a_mCallM, mVar, a_gSet, a_gTup, a_gLst, a_gsC, a_gsN, asBl, ctOf, setCt, ctL, ctLen, frz, itemsOf, Ct.toD, size_le, wipeE, hf]
  exact ⟨_, _, ⟨rfl, rfl⟩, y, 1 + x, pot3, rfl, rfl, by omega, by omega, by omega, by omega, p3⟩
end DF
namespace DF
open PySem PySem.Spec L2 Evl TL
/-! ### what repr tells -/
structure RQ (n w : Nat) (d : D) : Prop where
  ex : ∃ p, toP d = some p ∧ p.showable = true ∧ p.hasDict = false ∧ p.depth ≤ n ∧ p.leavesShort 1921 = true ∧ p.weight ≤ w
theorem repr_ok {n w : Nat} {d : D} (h : RQ n w d) (hn : n ≤ 64) (hw : w ≤ 8000) : ∃ s, fRepr [d] = some (.str s) := by
  obtain ⟨p, e, h1, h2, h3, h4, h5⟩ := h.ex
  have hl := PyData.shown_le 1921 (by decide) p h4
  have hz : p.shown.length ≤ sizeLine := by
    have h6 : (1921 + 2) * p.weight ≤ 1923 * 8000 := Nat.mul_le_mul_left _ (by omega)
    have h7 : sizeLine = 16777216 := rfl
    omega
  refine ⟨p.shown, ?_⟩
  unfold fRepr
  simp only [e]
  rw [if_pos ⟨h1, h2, by omega, hz⟩]
theorem rq_non (n : Nat) : RQ n 1 .non := ⟨.none, rfl, rfl, rfl, Nat.zero_le _, rfl, by decide⟩
theorem rq_bl (n : Nat) (b : Bool) : RQ n 1 (.bl b) := ⟨.bool b, rfl, rfl, rfl, Nat.zero_le _, rfl, by cases b <;> decide⟩
theorem rq_int (n : Nat) {i : Int} (h : i.natAbs < 2 ^ 1900) : RQ n 1900 (.int i) := by
  have h1 : i.natAbs.log2 < 1920 := Nat.lt_of_lt_of_le (log2_le h (by decide)) (by decide)
  refine ⟨.int i, rfl, decide_eq_true h1, rfl, Nat.zero_le _, ?_, ?_⟩
  rotate_left
  · have h2 : i.natAbs.log2 < 1900 := log2_le h (by decide)
    simp only [PyData.weight]
    split <;> omega
  simp only [PyData.leavesShort, decide_eq_true_eq]
  show (Str.ofString (toString i)).length ≤ 1921
  rw [ofString_length]
  exact int_text_length_le (by decide) h1
theorem rq_str (n : Nat) {x : Str} (h : (x.cps.toList.all fun c => decide (c < 16 ^ 8)) = true) (hw : (PyData.str x).weight ≤ 100) : RQ n 100 (.str x) := ⟨.str x, rfl, rfl, rfl, Nat.zero_le _, h, hw⟩
theorem rq_pair {n v w : Nat} {a b : D} (ha : RQ n v a) (hb : RQ n w b) : RQ (n + 1) (v + w + 2) (.tup [a, b]) := by
  obtain ⟨p, e, h1, h2, h3, h4, h5⟩ := ha.ex
  obtain ⟨q, f, k1, k2, k3, k4, k5⟩ := hb.ex
  refine ⟨.tuple [p, q], by simp [toP, toPs, e, f], ?_, ?_, ?_, ?_, ?_⟩
  · simp [PyData.showable, PyData.showableAll, h1, k1]
  · simp [PyData.hasDict, PyData.hasDictAll, h2, k2]
  · simp [PyData.depth, PyData.depthAll]; omega
  · simp [PyData.leavesShort, PyData.leavesShortAll, h4, k4]
  · simp [PyData.weight, PyData.weightAll]; omega
theorem rq_q (n : Nat) {q : Rat} (h : QB 1900 q) : RQ (n + 1) 3802 (dQ q) := rq_pair (rq_int n h.num) (rq_int n (by simpa using h.den))
theorem rq_qq (n : Nat) {p q : Rat} (hp : QB 1900 p) (hq : QB 1900 q) : RQ (n + 2) 7606 (.tup [dQ p, dQ q]) := rq_pair (rq_q n hp) (rq_q n hq)
theorem rq_word {w : Str} (h : w = "x" ∨ w = "y" ∨ w = "first" ∨ w = "second" ∨ w = "first turn" ∨ w = "second turn") : RQ 1 100 (.str w) := by
  rcases h with rfl | rfl | rfl | rfl | rfl | rfl <;> exact rq_str 1 (by decide +kernel) (by decide +kernel)
theorem bd_word (rs : Nat → List Row) : bdD rs = .non ∨ ∃ w : Str, bdD rs = .str w ∧ (w = "x" ∨ w = "y" ∨ w = "first" ∨ w = "second" ∨ w = "first turn" ∨ w = "second turn") := by
  unfold bdD bdL
  generalize zI rs = p1
  generalize zJ rs = p2
  generalize b3 rs = p3
  generalize b4 rs = p4
  generalize (ngJ rs && b5 rs) = p5
  generalize (ngI rs && b6 rs) = p6
  cases p1
  · cases p2
    · cases p3
      · cases p4
        · cases p5
          · cases p6
            · exact .inl rfl
            · exact .inr ⟨"second turn", rfl, by simp⟩
          · exact .inr ⟨"first turn", rfl, by simp⟩
        · exact .inr ⟨"second", rfl, by simp⟩
      · exact .inr ⟨"first", rfl, by simp⟩
    · exact .inr ⟨"y", rfl, by simp⟩
  · exact .inr ⟨"x", rfl, by simp⟩
theorem repr_bd (rs : Nat → List Row) : ∃ s, fRepr [bdD rs] = some (.str s) := by
  rcases bd_word rs with h | ⟨w, h, hw⟩
  · rw [h]; exact repr_ok (rq_non 1) (by decide) (by decide)
  · rw [h]; exact repr_ok (rq_word hw) (by decide) (by decide)
/-- what a plain book's border tells of its signs -/
theorem plain_signs {rs : Nat → List Row} (hp : bdD rs = .non) : dI (rs 0) ≠ 0 ∧ dJ (rs 0) ≠ 0 ∧ (dJ (rs 0) < 0 → tA rs ≠ 0) ∧ (dI (rs 0) < 0 → tB rs ≠ 0) := by
  unfold bdD bdL at hp
  have cI : zI rs = false := by
    cases q : zI rs with
    | false => rfl
    | true => simp [firstW, q] at hp
  have cJ : zJ rs = false := by
    cases q : zJ rs with
    | false => rfl
    | true => simp [firstW, q, cI] at hp
  have c3 : b3 rs = false := by
    cases q : b3 rs with
    | false => rfl
    | true => simp [firstW, q, cI, cJ] at hp
  have c4 : b4 rs = false := by
    cases q : b4 rs with
    | false => rfl
    | true => simp [firstW, q, cI, cJ, c3] at hp
  have c5 : (ngJ rs && b5 rs) = false := by
    cases q : (ngJ rs && b5 rs) with
    | false => rfl
    | true => simp [firstW, q, cI, cJ, c3, c4] at hp
  have c6 : (ngI rs && b6 rs) = false := by
    cases q : (ngI rs && b6 rs) with
    | false => rfl
    | true => simp [firstW, q, cI, cJ, c3, c4, c5] at hp
  have nn : ∀ x : Rat, x < 0 → x.num < 0 := fun x h => by
    have h1 := @Rat.num_nonneg x
    rw [← Rat.not_le, ← h1] at h
    omega
  refine ⟨fun q => ?_, fun q => ?_, fun y q => ?_, fun y q => ?_⟩
  · have : zI rs = true := by unfold zI; rw [q]; rfl
    rw [cI] at this; cases this
  · have : zJ rs = true := by unfold zJ; rw [q]; rfl
    rw [cJ] at this; cases this
  · have h1 : ngJ rs = true := decide_eq_true (nn _ y)
    have h2 : b5 rs = true := by unfold b5; rw [q]; rfl
    rw [h1, h2] at c5; cases c5
  · have h1 : ngI rs = true := decide_eq_true (nn _ y)
    have h2 : b6 rs = true := by unfold b6; rw [q]; rfl
    rw [h1, h2] at c6; cases c6
/-- home, by the signs as numbers -/
theorem hm_iff (rs : Nat → List Row) : hmB rs = true ↔ ((dJ (rs 0) < 0 ∨ dI (rs 0) < 0) ∧ (dJ (rs 0) < 0 → tA rs < 0) ∧ (dI (rs 0) < 0 → tB rs < 0)) := by
  have nn : ∀ x : Rat, x.num < 0 ↔ x < 0 := fun x => by
    have h1 := @Rat.num_nonneg x
    rw [← Rat.not_le, ← h1]
    omega
  have gI : ngI rs = decide (dI (rs 0) < 0) := decide_eq_decide.mpr (nn _)
  have gJ : ngJ rs = decide (dJ (rs 0) < 0) := decide_eq_decide.mpr (nn _)
  have hT : ∀ k, decide ((tK rs k).num < 0) = decide (tK rs k < 0) := fun k => decide_eq_decide.mpr (nn _)
  have t1 : tK rs 1 = tA rs := rfl
  have t2 : tK rs 2 = tB rs := rfl
  unfold hmB homeL
  simp only [hT]
  rw [gI, gJ]
  by_cases x : dI (rs 0) < 0 <;> by_cases y : dJ (rs 0) < 0 <;> simp [x, y, sideL, t1, t2]
end DF
namespace DF
open PySem PySem.Spec L2 Evl TL
/-- a share from 0 to 1, of a small bottom -/
def ShP (s : Rat) : Prop := ∃ u t : Int, (1 ≤ t ∧ t ≤ 6) ∧ (0 ≤ u ∧ u ≤ t) ∧ s = Rat.divInt u t
theorem ShP.zero : ShP 0 := ⟨0, 1, by omega, by omega, by decide⟩
theorem ShP.one : ShP 1 := ⟨1, 1, by omega, by omega, by decide⟩
theorem le_divInt {u t : Int} (ht : 0 < t) (h : u ≤ t) : Rat.divInt u t ≤ 1 := by
  have h2 : Rat.divInt u t ≤ Rat.divInt t t := (divInt_le ht).mpr h
  rwa [Rat.divInt_self' (by omega)] at h2
theorem pos_divInt {u t : Int} (ht : 0 < t) (h : 0 < u) : 0 < Rat.divInt u t := by
  have h1 : ¬ Rat.divInt u t ≤ Rat.divInt 0 t := fun z => by
    have := (divInt_le ht).mp z
    omega
  rw [Rat.zero_divInt] at h1
  exact Rat.not_le.mp h1
theorem ShP.b {s : Rat} (h : ShP s) : (0 ≤ s ∧ s ≤ 1) ∧ QB 10 s := by
  obtain ⟨u, t, ht, hu, rfl⟩ := h
  exact ⟨⟨divInt_nonneg (by omega) hu.1, le_divInt (by omega) hu.2⟩, divInt_qb (by omega) (by omega) (by omega)⟩
def cmS (a b : Rat) : List Row := [⟨1, 0, a⟩, ⟨0, 1, b⟩]
theorem cast_ne {z : Int} (h : z ≠ 0) : (z : Rat) ≠ 0 := fun k => h (Rat.intCast_inj.mp (k.trans (by rfl : (0 : Rat) = ((0 : Int) : Rat))))
theorem mul_le_left {x y : Rat} (hx : 0 ≤ x) (hy : y ≤ 1) : x * y ≤ x := by
  have h : 0 ≤ x * (1 - y) := Rat.mul_nonneg hx (by grind)
  grind
theorem ci0 : ((0 : Int) : Rat) = 0 := rfl
theorem ci1 : ((1 : Int) : Rat) = 1 := rfl
theorem cim : ((-1 : Int) : Rat) = -1 := rfl
theorem ci2 : ((2 : Int) : Rat) = 2 := rfl
theorem ci3 : ((3 : Int) : Rat) = 3 := rfl
end DF
namespace DF
open PySem PySem.Spec L2 Evl TL
theorem a_mUpd (i : Nat) (me : ME) (ρ : Env) : mUpd i me ρ = (lft (ctD ρ i)).bind fun _ => (me ρ).bind fun y => (lft (match y.1 with | .dct es => some es | _ => none)).bind fun es => (lft (ctD y.2 i)).bind fun ds =>
  if ds.length + es.length ≤ sizeLine then .ok (.nxt (setCt y.2 i (.dct (updD ds es)))) else .bad := rfl
theorem ne_of_pos {x : Rat} (h : 0 < x) : x ≠ 0 := by grind
end DF
namespace DF
open PySem PySem.Spec L2 Evl TL
theorem is_less_ok {p q : Rat} (hp : QB 4000 p) (hq : QB 4000 q) : Mi.m__law_frac_is_less [.val (dQ p), .val (dQ q)] = .ok (.bl (decide (p < q)), [.val (dQ p), .val (dQ q)]) := by
  have e : decide (p < q) = decide (p.num * q.den < q.num * p.den) := decide_eq_decide.mpr (Rat.lt_iff p q)
  refine fun_v rfl ?_
  unfold Mi.M__law_frac_is_less
  simp [-a_mFor, -a_mLc, -a_mWhile, -a_mCallM, mVar, a_gSet, a_gTup, a_gLst, a_gsC, a_gsN, asBl, ctOf, setCt, ctL, ctLen, frz, itemsOf, Ct.toD, size_le, wipeE, dq0, dq1, opMul_ok hp.smn hq.smd, opMul_ok hq.smn hp.smd, opLt, e]
end DF
namespace DF
open PySem PySem.Spec L2 Evl TL
/-! ### k43: queues handed on, the plain law -/
structure Hnd (a b m k p q : Rat) : Prop where
  ex : ∃ T A B M K : Int, (0 < T ∧ T ≤ 128) ∧ (0 < A ∧ 0 < B ∧ 0 < M ∧ 0 < K) ∧ A + B + M + K = T ∧ a = Rat.divInt A T ∧ b = Rat.divInt B T ∧ m = Rat.divInt M T ∧ k = Rat.divInt K T
  hp : ShP p
  hq : ShP q
  no : ¬ (p = 1 ∧ q = 1)
structure HB (a b m k p q : Rat) : Prop where
  a0 : 0 < a
  b0 : 0 < b
  m0 : 0 < m
  k0 : 0 < k
  one : a + b + m + k = 1
  p0 : 0 ≤ p
  p1 : p ≤ 1
  q0 : 0 ≤ q
  q1 : q ≤ 1
  pq : 0 < 1 - p * q
  qa : QB 10 a
  qb : QB 10 b
  qm : QB 10 m
  qk : QB 10 k
  qp : QB 10 p
  qq : QB 10 q
theorem Hnd.b {a b m k p q : Rat} (h : Hnd a b m k p q) : HB a b m k p q := by
  obtain ⟨T, A, B, M, K, hT, hA, hs, rfl, rfl, rfl, rfl⟩ := h.ex
  obtain ⟨⟨p0, p1⟩, qp⟩ := h.hp.b
  obtain ⟨⟨q0, q1⟩, qq⟩ := h.hq.b
  have hpq : 0 < 1 - p * q := by
    have h1 := mul_le_left p0 q1
    by_cases e : p = 1
    · have h2 : q ≠ 1 := fun z => h.no ⟨e, z⟩
      rw [e]
      grind
    · grind
  exact { a0 := pos_divInt hT.1 hA.1, b0 := pos_divInt hT.1 hA.2.1, m0 := pos_divInt hT.1 hA.2.2.1, k0 := pos_divInt hT.1 hA.2.2.2,
          one := by rw [divInt_add_same (by omega), divInt_add_same (by omega), divInt_add_same (by omega), hs, Rat.divInt_self' (by omega)],
          p0 := p0, p1 := p1, q0 := q0, q1 := q1, pq := hpq,
          qa := divInt_qb (by omega) (by omega) (by omega), qb := divInt_qb (by omega) (by omega) (by omega), qm := divInt_qb (by omega) (by omega) (by omega), qk := divInt_qb (by omega) (by omega) (by omega), qp := qp, qq := qq }
def fiH (m p : Rat) : List Row := [⟨-1, 1, m * p⟩, ⟨-1, 0, m * (1 - p)⟩]
def seH (k q : Rat) : List Row := [⟨1, -1, k * q⟩, ⟨0, -1, k * (1 - q)⟩]
def boH (m k p q : Rat) : List Row := [⟨-1, 1, m * p⟩, ⟨-1, 0, m * (1 - p)⟩, ⟨1, -1, k * q⟩, ⟨0, -1, k * (1 - q)⟩]
noncomputable def hoR (a b m k p q : Rat) : Nat → List Row := mdR (cmS a b) (fiH m p) (seH k q) (boH m k p q)
theorem handed_steps {a b m k p q : Rat} (h : Hnd a b m k p q) : ∀ i, i < 4 → Steps (regLow i) (mdS (cmS a b) (fiH m p) (seH k q) (boH m k p q) i) := by
  have hb := h.b
  have hcd : ∃ W : Int, 0 < W ∧ W ≤ 900000 ∧ ∀ x, x = a ∨ x = b ∨ x = m * p ∨ x = m * (1 - p) ∨ x = k * q ∨ x = k * (1 - q) → ∃ w : Int, 0 ≤ w ∧ x = Rat.divInt w W := by
    obtain ⟨T, A, B, M, K, hT, hA, hsum, rfl, rfl, rfl, rfl⟩ := h.ex
    obtain ⟨u, t, ht, hu, rfl⟩ := h.hp
    obtain ⟨v, r, hr, hv, rfl⟩ := h.hq
    have hT0 := cast_ne (z := T) (by omega)
    have ht0 := cast_ne (z := t) (by omega)
    have hr0 := cast_ne (z := r) (by omega)
    have p2 : 0 < T * t := Int.mul_pos hT.1 (by omega)
    have p3 : 0 < T * t * r := Int.mul_pos p2 (by omega)
    have l1 : T * t ≤ 128 * 6 := Int.mul_le_mul hT.2 ht.2 (by omega) (by omega)
    have l2 : T * t * r ≤ 128 * 6 * 6 := Int.mul_le_mul l1 hr.2 (by omega) (by omega)
    refine ⟨T * t * r, p3, by omega, fun x hx => ?_⟩
    have n1 : 0 ≤ M := by omega
    have n2 : 0 ≤ K := by omega
    have n3 : 0 ≤ t := by omega
    have n4 : 0 ≤ r := by omega
    have n5 : 0 ≤ u := by omega
    have n6 : 0 ≤ t - u := by omega
    have n7 : 0 ≤ v := by omega
    have n8 : 0 ≤ r - v := by omega
    have n9 : 0 ≤ A := by omega
    have n0 : 0 ≤ B := by omega
    rcases hx with rfl | rfl | rfl | rfl | rfl | rfl
    · refine ⟨A * t * r, Int.mul_nonneg (Int.mul_nonneg n9 n3) n4, ?_⟩
      simp only [Rat.divInt_eq_div, Rat.intCast_mul]
      grind
    · refine ⟨B * t * r, Int.mul_nonneg (Int.mul_nonneg n0 n3) n4, ?_⟩
      simp only [Rat.divInt_eq_div, Rat.intCast_mul]
      grind
    · refine ⟨M * u * r, Int.mul_nonneg (Int.mul_nonneg n1 n5) n4, ?_⟩
      simp only [Rat.divInt_eq_div, Rat.intCast_mul]
      grind
    · refine ⟨M * (t - u) * r, Int.mul_nonneg (Int.mul_nonneg n1 n6) n4, ?_⟩
      simp only [Rat.divInt_eq_div, Rat.intCast_mul, Rat.intCast_sub]
      grind
    · refine ⟨K * v * t, Int.mul_nonneg (Int.mul_nonneg n2 n7) n3, ?_⟩
      simp only [Rat.divInt_eq_div, Rat.intCast_mul]
      grind
    · refine ⟨K * (r - v) * t, Int.mul_nonneg (Int.mul_nonneg n2 n8) n3, ?_⟩
      simp only [Rat.divInt_eq_div, Rat.intCast_mul, Rat.intCast_sub]
      grind
  obtain ⟨W, hW, hW2, hw⟩ := hcd
  have one := hb.one
  have m0 := hb.m0
  have k0 := hb.k0
  have em : m * p + m * (1 - p) = m := by grind
  have ek : k * q + k * (1 - q) = k := by grind
  intro i hi
  refine four (P := fun i => Steps (regLow i) (mdS (cmS a b) (fiH m p) (seH k q) (boH m k p q) i)) hi ?_ ?_ ?_ ?_
  · exact { len := by simp [mdS, cmS, boH], nd := by simp [mdS, cmS, boH], n0 := by simp [mdS, cmS, boH],
            rng := fun r hr => by
              simp only [mdS, cmS, boH, List.cons_append, List.nil_append, List.mem_cons, List.not_mem_nil, or_false] at hr
              rcases hr with rfl | rfl | rfl | rfl | rfl | rfl <;> simp [regLow],
            cd := ⟨W, hW, hW2, fun r hr => by
              simp only [mdS, cmS, boH, List.cons_append, List.nil_append, List.mem_cons, List.not_mem_nil, or_false] at hr
              rcases hr with rfl | rfl | rfl | rfl | rfl | rfl <;> exact hw _ (by simp)⟩,
            le := by simp only [mdS, cmS, boH, List.cons_append, List.nil_append, ls]; grind }
  · exact { len := by simp [mdS, cmS, fiH], nd := by simp [mdS, cmS, fiH], n0 := by simp [mdS, cmS, fiH],
            rng := fun r hr => by
              simp only [mdS, cmS, fiH, List.cons_append, List.nil_append, List.mem_cons, List.not_mem_nil, or_false] at hr
              rcases hr with rfl | rfl | rfl | rfl <;> simp [regLow],
            cd := ⟨W, hW, hW2, fun r hr => by
              simp only [mdS, cmS, fiH, List.cons_append, List.nil_append, List.mem_cons, List.not_mem_nil, or_false] at hr
              rcases hr with rfl | rfl | rfl | rfl <;> exact hw _ (by simp)⟩,
            le := by simp only [mdS, cmS, fiH, List.cons_append, List.nil_append, ls]; grind }
  · exact { len := by simp [mdS, cmS, seH], nd := by simp [mdS, cmS, seH], n0 := by simp [mdS, cmS, seH],
            rng := fun r hr => by
              simp only [mdS, cmS, seH, List.cons_append, List.nil_append, List.mem_cons, List.not_mem_nil, or_false] at hr
              rcases hr with rfl | rfl | rfl | rfl <;> simp [regLow],
            cd := ⟨W, hW, hW2, fun r hr => by
              simp only [mdS, cmS, seH, List.cons_append, List.nil_append, List.mem_cons, List.not_mem_nil, or_false] at hr
              rcases hr with rfl | rfl | rfl | rfl <;> exact hw _ (by simp)⟩,
            le := by simp only [mdS, cmS, seH, List.cons_append, List.nil_append, ls]; grind }
  · exact { len := by simp [mdS, cmS], nd := by simp [mdS, cmS], n0 := by simp [mdS, cmS],
            rng := fun r hr => by
              simp only [mdS, cmS, List.cons_append, List.nil_append, List.mem_cons, List.not_mem_nil, or_false] at hr
              rcases hr with rfl | rfl <;> simp [regLow],
            cd := ⟨W, hW, hW2, fun r hr => by
              simp only [mdS, cmS, List.cons_append, List.nil_append, List.mem_cons, List.not_mem_nil, or_false] at hr
              rcases hr with rfl | rfl <;> exact hw _ (by simp)⟩,
            le := by simp only [mdS, cmS, List.cons_append, List.nil_append, ls]; grind }
theorem handed_means (a b m k p q : Rat) : dI (hoR a b m k p q 0) = a - m + k * q ∧ dJ (hoR a b m k p q 0) = b + m * p - k ∧ dI (hoR a b m k p q 1) = a - m ∧ dJ (hoR a b m k p q 1) = b + m * p ∧ dI (hoR a b m k p q 2) = a + k * q ∧ dJ (hoR a b m k p q 2) = b - k := by
  refine ⟨?_, ?_, ?_, ?_, ?_, ?_⟩ <;>
    (unfold hoR mdR
     first | rw [mkR_dI] | rw [mkR_dJ]
     simp only [mdS, cmS, fiH, seH, boH, List.cons_append, List.nil_append, ls, ci0, ci1, cim]
     grind)
noncomputable def lo1 (a b m p q : Rat) : Rat := (a + q * b) / (1 - p * q) / m
noncomputable def lo2 (a b k p q : Rat) : Rat := (b + p * a) / (1 - p * q) / k
theorem handed_turns {a b m k p q : Rat} (h : HB a b m k p q) : tA (hoR a b m k p q) = m * k * (1 - p * q) * (lo1 a b m p q - 1) ∧ tB (hoR a b m k p q) = m * k * (1 - p * q) * (lo2 a b k p q - 1) := by
  obtain ⟨e1, e2, e3, e4, e5, e6⟩ := handed_means a b m k p q
  have n1 : 1 - p * q ≠ 0 := ne_of_pos h.pq
  have n2 : m ≠ 0 := ne_of_pos h.m0
  have n3 : k ≠ 0 := ne_of_pos h.k0
  have f1 : lo1 a b m p q * m * (1 - p * q) = a + q * b := by
    unfold lo1
    rw [Rat.div_mul_cancel n2, Rat.div_mul_cancel n1]
  have f2 : lo2 a b k p q * k * (1 - p * q) = b + p * a := by
    unfold lo2
    rw [Rat.div_mul_cancel n3, Rat.div_mul_cancel n1]
  generalize lo1 a b m p q = L1 at *
  generalize lo2 a b k p q = L2 at *
  constructor
  · unfold tA
    rw [e1, e2, e3, e4]
    grind
  · unfold tB
    rw [e1, e2, e5, e6]
    grind
theorem sg_both {X Y p q U V : Rat} (p0 : 0 ≤ p) (p1 : p ≤ 1) (q0 : 0 ≤ q) (q1 : q ≤ 1) (hX : X ≠ 0) (hY : Y ≠ 0) (hU : U = X + q * Y) (hV : V = Y + p * X) : ((Y < 0 ∨ X < 0) ∧ (Y < 0 → U < 0) ∧ (X < 0 → V < 0)) ↔ (U < 0 ∧ V < 0) := by
  have pq0 : 0 ≤ p * q := Rat.mul_nonneg p0 q0
  have pq1 : p * q ≤ 1 := by have := mul_le_left p0 q1; grind
  constructor
  · rintro ⟨h, h1, h2⟩
    by_cases y : Y < 0
    · have u := h1 y
      by_cases x : X < 0
      · exact ⟨u, h2 x⟩
      · refine ⟨u, ?_⟩
        have c1 : 0 ≤ p * (-(X + q * Y)) := Rat.mul_nonneg p0 (by grind)
        have c2 : 0 ≤ (1 - p * q) * (-Y) := Rat.mul_nonneg (by grind) (by grind)
        by_cases z : V = 0
        · -- then p X = -Y > 0, so p > 0
          have z1 : p * X = -Y := by grind
          have pp : 0 < p := by
            rcases Rat.le_iff_lt_or_eq.mp p0 with e | e
            · exact e
            · rw [← e] at z1; grind
          have c3 : 0 < p * (-(X + q * Y)) := Rat.mul_pos pp (by grind)
          grind
        · grind
    · have x : X < 0 := by rcases h with h | h; exact absurd h y; exact h
      have v := h2 x
      refine ⟨?_, v⟩
      have c1 : 0 ≤ q * (-(Y + p * X)) := Rat.mul_nonneg q0 (by grind)
      have c2 : 0 ≤ (1 - p * q) * (-X) := Rat.mul_nonneg (by grind) (by grind)
      by_cases z : U = 0
      · have z1 : q * Y = -X := by grind
        have qp : 0 < q := by
          rcases Rat.le_iff_lt_or_eq.mp q0 with e | e
          · exact e
          · rw [← e] at z1; grind
        have c3 : 0 < q * (-(Y + p * X)) := Rat.mul_pos qp (by grind)
        grind
      · grind
  · rintro ⟨u, v⟩
    refine ⟨?_, fun _ => u, fun _ => v⟩
    by_cases y : Y < 0
    · exact .inl y
    · right
      have c1 : 0 ≤ q * Y := Rat.mul_nonneg q0 (by grind)
      grind
theorem mul_neg_iff {c x : Rat} (hc : 0 < c) : c * x < 0 ↔ x < 0 := by
  constructor
  · intro h
    by_cases z : x < 0
    · exact z
    · have := Rat.mul_nonneg (Rat.le_of_lt hc) (show 0 ≤ x by grind)
      grind
  · intro h
    have := Rat.mul_pos hc (show 0 < -x by grind)
    grind
theorem handed_plain {a b m k p q : Rat} (h : HB a b m k p q) (hp : bdD (hoR a b m k p q) = .non) : hmB (hoR a b m k p q) = (decide (lo1 a b m p q < 1) && decide (lo2 a b k p q < 1)) := by
  obtain ⟨e1, e2, e3, e4, e5, e6⟩ := handed_means a b m k p q
  obtain ⟨t1, t2⟩ := handed_turns h
  obtain ⟨x0, y0, _, _⟩ := plain_signs hp
  have hc : 0 < m * k * (1 - p * q) := Rat.mul_pos (Rat.mul_pos h.m0 h.k0) h.pq
  have key : hmB (hoR a b m k p q) = true ↔ (lo1 a b m p q < 1 ∧ lo2 a b k p q < 1) := by
    rw [hm_iff, t1, t2, mul_neg_iff hc, mul_neg_iff hc]
    rw [e1] at x0
    rw [e2] at y0
    rw [e1, e2]
    have n1 : 1 - p * q ≠ 0 := ne_of_pos h.pq
    have f1 : lo1 a b m p q * m * (1 - p * q) = a + q * b := by
      unfold lo1
      rw [Rat.div_mul_cancel (ne_of_pos h.m0), Rat.div_mul_cancel n1]
    have f2 : lo2 a b k p q * k * (1 - p * q) = b + p * a := by
      unfold lo2
      rw [Rat.div_mul_cancel (ne_of_pos h.k0), Rat.div_mul_cancel n1]
    generalize lo1 a b m p q = L1 at *
    generalize lo2 a b k p q = L2 at *
    have u := sg_both h.p0 h.p1 h.q0 h.q1 x0 y0 (U := m * (1 - p * q) * (L1 - 1)) (V := k * (1 - p * q) * (L2 - 1)) (by grind) (by grind)
    rw [mul_neg_iff (Rat.mul_pos h.m0 h.pq), mul_neg_iff (Rat.mul_pos h.k0 h.pq)] at u
    have s1 : L1 - 1 < 0 ↔ L1 < 1 := by grind
    have s2 : L2 - 1 < 0 ↔ L2 < 1 := by grind
    rw [s1, s2] at u ⊢
    exact u
  by_cases h1 : lo1 a b m p q < 1
  · by_cases h2 : lo2 a b k p q < 1
    · rw [key.mpr ⟨h1, h2⟩, decide_eq_true h1, decide_eq_true h2]; rfl
    · have : hmB (hoR a b m k p q) ≠ true := fun z => h2 (key.mp z).2
      rw [decide_eq_false h2, Bool.and_false]
      simpa using this
  · have : hmB (hoR a b m k p q) ≠ true := fun z => h1 (key.mp z).1
    rw [decide_eq_false h1, Bool.false_and]
    simpa using this
end DF
namespace DF
open PySem PySem.Spec L2 Evl TL
/-! ### k43: what is told -/
abbrev hndD (a b m k p q : Rat) : D := .tup [dQ a, dQ b, dQ m, dQ k, dQ p, dQ q]
theorem half_q : dQ (Rat.divInt 1 2) = .tup [.int 1, .int 2] := by
  have h1 : (Rat.divInt 1 2).num = 1 := by decide +kernel
  have h2 : (Rat.divInt 1 2).den = 2 := by decide +kernel
  unfold dQ
  rw [h1, h2]
  rfl
theorem len4 {α : Type} {l : List α} (h : l.length = 4) : ∃ a b c d, l = [a, b, c, d] := by
  match l, h with
  | [a, b, c, d], _ => exact ⟨a, b, c, d, rfl⟩
theorem good_qq (p q : Rat) : Good 2 (.tup [dQ p, dQ q]) := Good.tup fun d hd => by
  simp only [List.mem_cons, List.not_mem_nil, or_false] at hd
  rcases hd with rfl | rfl
  · exact dQ_good p
  · exact dQ_good q
theorem eq_qq (p q : Rat) : opEq (.tup [dQ p, dQ q]) (.tup [dQ p, dQ q]) = some (.bl true) := by
  unfold opEq
  rw [eqD_same (n := 2) (by decide) (good_qq p q)]
  rfl
theorem ne_qq {p q r s : Rat} (h : ¬ (p = r ∧ q = s)) : opEq (.tup [dQ p, dQ q]) (.tup [dQ r, dQ s]) = some (.bl false) := by
  unfold opEq
  rw [eqD_diff (n := 2) (by decide) (good_qq p q) (good_qq r s) (fun z => h (by
    have z2 := D.tup.inj z
    simp only [List.cons.injEq] at z2
    exact ⟨dQ_inj z2.1, dQ_inj z2.2.1⟩))]
  rfl
noncomputable def tailH : MS := (mSeq (mPar 6 7 (mVal (mCallM Mi.m__law_part 0 (mNil))) (mVal (mCallM Mi.m__law_part 0 (mNil)))) (mRet (mTup (mCons (mVar 1) (mCons (mVar 2) (mCons (mVar 3) (mCons (mVar 4) (mCons (mVar 6) (mCons (mIf (mTest (mBin opEq (mTup (mCons (mVar 6) (mCons (mVar 7) (mNil)))) (mTup (mCons (mTup (mCons (mC (.int (1))) (mCons (mC (.int (1))) (mNil)))) (mCons (mTup (mCons (mC (.int (1))) (mCons (mC (.int (1))) (mNil)))) (mNil)))))) (mTup (mCons (mC (.int (1))) (mCons (mC (.int (2))) (mNil)))) (mVar 7)) (mNil))))))))))
def HndQ (n : Nat) (d : D) (c' : Ct) : Prop := ∃ (a b m k p q : Rat) (pot' : List D), d = hndD a b m k p q ∧ c' = .lst pot' ∧ Hnd a b m k p q ∧ PotOk n pot'
theorem tailH_ok {n : Nat} {pot : List D} {T A B M K : Int} {s5 s8 : Slot} (h5 : kdS s5 = 0) (h8 : kdS s8 = 0) (h : PotOk n pot) (hn : n + 4 < 2 ^ 60) (hT : 0 < T ∧ T ≤ 128) (hA : 0 < A ∧ 0 < B ∧ 0 < M ∧ 0 < K) (hs : A + B + M + K = T) :
    Ev (tailH [.pin (.lst pot), .val (dQ (Rat.divInt A T)), .val (dQ (Rat.divInt B T)), .val (dQ (Rat.divInt M T)), .val (dQ (Rat.divInt K T)), s5, .un, .un, s8]) fun o => ∃ d c' ρ', o = .ret d (.pin c' :: ρ') ∧ HndQ (n + 4) d c' := by
  obtain ⟨u1, t1, pot1, e1, c1, c2, c3, c4, p1⟩ := law_part_ok h (by omega)
  obtain ⟨u2, t2, pot2, e2, c5, c6, c7, c8, p2⟩ := law_part_ok p1 (by omega)
  have s1 : ShP (Rat.divInt u1 t1) := ⟨u1, t1, ⟨c1, c2⟩, ⟨c3, c4⟩, rfl⟩
  have s2 : ShP (Rat.divInt u2 t2) := ⟨u2, t2, ⟨c5, c6⟩, ⟨c7, c8⟩, rfl⟩
  have s3 : ShP (Rat.divInt 1 2) := ⟨1, 2, by omega, by omega, rfl⟩
  generalize Rat.divInt u1 t1 = p at *
  generalize Rat.divInt u2 t2 = q at *
  have mk : ∀ r, ShP r → ¬ (p = 1 ∧ r = 1) → HndQ (n + 4) (hndD (Rat.divInt A T) (Rat.divInt B T) (Rat.divInt M T) (Rat.divInt K T) p r) (.lst pot2) := fun r hr no =>
    ⟨_, _, _, _, _, _, pot2, rfl, rfl, ⟨⟨T, A, B, M, K, hT, hA, hs, rfl, rfl, rfl, rfl⟩, s1, hr, no⟩, p2⟩
  unfold tailH
  simp [-a_mFor, -a_mLc, -a_mWhile, -a_mCallM, mVar, a_gSet, a_gTup, a_gLst, a_gsC, a_gsN, asBl, ctOf, setCt, ctL, ctLen, frz, itemsOf, Ct.toD, size_le, wipeE, h5, h8]
  rw [a_mCallM]
  simp [-a_mFor, -a_mLc, -a_mWhile, -a_mCallM, mVar, a_gSet, a_gTup, a_gLst, a_gsC, a_gsN, asBl, ctOf, setCt, ctL, ctLen, frz, itemsOf, Ct.toD, size_le, wipeE, e1, h5, h8]
  rw [a_mCallM]
  by_cases hpq : p = 1 ∧ q = 1
  · have he : opEq (.tup [dQ p, dQ q]) (.tup [.tup [.int 1, .int 1], .tup [.int 1, .int 1]]) = some (.bl true) := by
      rw [hpq.1, hpq.2]; exact eq_qq 1 1
    have hm := mk (Rat.divInt 1 2) s3 (fun z => by
      have := z.2
      exact absurd this (by decide +kernel))
    unfold hndD at hm
    rw [half_q] at hm
    simp [-a_mFor, -a_mLc, -a_mWhile, -a_mCallM, mVar, a_gSet, a_gTup, a_gLst, a_gsC, a_gsN, asBl, ctOf, setCt, ctL, ctLen, frz, itemsOf, Ct.toD, size_le, wipeE, e2, h5, h8, he]
    exact ⟨_, _, ⟨rfl, rfl⟩, hm⟩
  · have he : opEq (.tup [dQ p, dQ q]) (.tup [.tup [.int 1, .int 1], .tup [.int 1, .int 1]]) = some (.bl false) := ne_qq (r := 1) (s := 1) hpq
    simp [-a_mFor, -a_mLc, -a_mWhile, -a_mCallM, mVar, a_gSet, a_gTup, a_gLst, a_gsC, a_gsN, asBl, ctOf, setCt, ctL, ctLen, frz, itemsOf, Ct.toD, size_le, wipeE, e2, h5, h8, he]
    exact ⟨_, _, ⟨rfl, rfl⟩, mk q s2 hpq⟩
theorem law_told_ok {n : Nat} {pot : List D} (h : PotOk n pot) (hn : n + 10 < 2 ^ 60) : ∃ (a b m k p q : Rat) (pot' : List D), Mi.m__law_told [.pin (.lst pot)] = .ok (hndD a b m k p q, [.pin (.lst pot')]) ∧ Hnd a b m k p q ∧ PotOk (n + 9) pot' := by
  suffices hh : ∃ d c', Mi.m__law_told [.pin (.lst pot)] = .ok (d, [.pin c']) ∧ HndQ (n + 9) d c' by
    obtain ⟨d, c', e0, a, b, m, k, p, q, pot', rfl, rfl, h1, h2⟩ := hh
    exact ⟨a, b, m, k, p, q, pot', e0, h1, h2⟩
  obtain ⟨ws, pot1, e1, hl, hw, p1⟩ := law_parts_ok (k := 4) h (by omega) (by decide)
  obtain ⟨u, v, w, x, rfl⟩ := len4 hl
  have hu := hw u (by simp)
  have hv := hw v (by simp)
  have hww := hw w (by simp)
  have hx := hw x (by simp)
  have hS : ([u, v, w, x] : List Int).sum = u + v + w + x := by simp [Int.add_assoc]
  rw [hS] at e1
  generalize hT : u + v + w + x = T at e1
  have e1' : Mi.m__law_parts [.pin (.lst pot), .val (.int 4)] = .ok (.lst [dQ (Rat.divInt u T), dQ (Rat.divInt v T), dQ (Rat.divInt w T), dQ (Rat.divInt x T)], [.pin (.lst pot1), .val (.int 4)]) := e1
  refine fun_p rfl ?_
  unfold Mi.M__law_told
  show Ev (mSeq _ (mSeq _ tailH) _) _
  simp [-a_mFor, -a_mLc, -a_mWhile, -a_mCallM, mVar, a_gSet, a_gTup, a_gLst, a_gsC, a_gsN, asBl, ctOf, setCt, ctL, ctLen, frz, itemsOf, Ct.toD, size_le, wipeE]
  rw [a_mCallM]
  simp [-a_mFor, -a_mLc, -a_mWhile, -a_mCallM, mVar, a_gSet, a_gTup, a_gLst, a_gsC, a_gsN, asBl, ctOf, setCt, ctL, ctLen, frz, itemsOf, Ct.toD, size_le, wipeE, e1']
  refine ev_take p1 (by rfl) (by decide) (by decide) (by omega) fun z pot2 z0 z1 p2 => ?_
  have hT0 := cast_ne (z := T) (by omega)
  by_cases hz : z = 0
  · have qa : QB 10 (Rat.divInt u T) := divInt_qb (by omega) (by omega) (by omega)
    have qb : QB 10 (Rat.divInt v T) := divInt_qb (by omega) (by omega) (by omega)
    have qm : QB 10 (Rat.divInt w T) := divInt_qb (by omega) (by omega) (by omega)
    have qk : QB 10 (Rat.divInt x T) := divInt_qb (by omega) (by omega) (by omega)
    have qh : QB 2 (Rat.divInt 1 2) := divInt_qb (by decide) (by decide) (by decide)
    have hTc : (T : Rat) = (u : Rat) + v + w + x := by rw [← hT]; simp only [Rat.intCast_add]
    have c4 : ((4 : Int) : Rat) = 4 := rfl
    have t1 := m__law_frac_times_ok (qb_mono qa (b := 4000) (by decide)) (qb_mono qh (by decide))
    have t2 := m__law_frac_times_ok (qb_mono qb (b := 4000) (by decide)) (qb_mono qh (by decide))
    have ea : Rat.divInt u T * Rat.divInt 1 2 = Rat.divInt (2 * u) (4 * T) := by
      simp only [Rat.divInt_eq_div, Rat.intCast_mul, ci1, ci2, c4]
      grind
    have eb : Rat.divInt v T * Rat.divInt 1 2 = Rat.divInt (2 * v) (4 * T) := by
      simp only [Rat.divInt_eq_div, Rat.intCast_mul, ci1, ci2, c4]
      grind
    have qa2 := qa.mul' qh
    have qb2 := qb.mul' qh
    have s1 := m__law_frac_plus_ok (qb_mono qa2 (b := 4000) (by decide)) (qb_mono qb2 (by decide))
    have qs := qa2.add' qb2
    have t3 := m__law_frac_times_ok (qb_mono qh (b := 4000) (by decide)) (qb_mono qs (by decide))
    have qr := qh.mul' qs
    have s2 := m__law_frac_plus_ok (qb_mono qm (b := 4000) (by decide)) (qb_mono qr (by decide))
    have l1 := m__law_frac_less_ok (qb_mono qs (b := 4000) (by decide)) (qb_mono qr (by decide))
    have s3 := m__law_frac_plus_ok (qb_mono qk (b := 4000) (by decide)) (qb_mono (qs.sub' qr) (by decide))
    have em : Rat.divInt w T + Rat.divInt 1 2 * (Rat.divInt u T * Rat.divInt 1 2 + Rat.divInt v T * Rat.divInt 1 2) = Rat.divInt (4 * w + u + v) (4 * T) := by
      simp only [Rat.divInt_eq_div, Rat.intCast_mul, Rat.intCast_add, ci1, ci2, c4]
      grind
    have ek : Rat.divInt x T + (Rat.divInt u T * Rat.divInt 1 2 + Rat.divInt v T * Rat.divInt 1 2 - Rat.divInt 1 2 * (Rat.divInt u T * Rat.divInt 1 2 + Rat.divInt v T * Rat.divInt 1 2)) = Rat.divInt (4 * x + u + v) (4 * T) := by
      simp only [Rat.divInt_eq_div, Rat.intCast_mul, Rat.intCast_add, ci1, ci2, c4]
      grind
    rw [em] at s2
    rw [ek] at s3
    rw [ea, eb] at s1 t3 s2 l1 s3
    rw [ea] at t1
    rw [eb] at t2
    rw [half_q] at t1 t2 t3
    generalize hrr : Rat.divInt 1 2 * (Rat.divInt (2 * u) (4 * T) + Rat.divInt (2 * v) (4 * T)) = rr at *
    simp [-a_mFor, -a_mLc, -a_mWhile, -a_mCallM, mVar, a_gSet, a_gTup, a_gLst, a_gsC, a_gsN, asBl, ctOf, setCt, ctL, ctLen, frz, itemsOf, Ct.toD, size_le, wipeE, opEq_int, hz]
    let F : Env := [.pin (.lst pot2), .val (dQ (Rat.divInt u T)), .val (dQ (Rat.divInt v T)), .val (dQ (Rat.divInt w T)), .val (dQ (Rat.divInt x T)), .un, .un, .un, .un]
    rw [lc_map [false, true] (fun b => dQ (Rat.divInt (if b then v else u) T)) (fun b => dQ (Rat.divInt (2 * (if b then v else u)) (4 * T))) (ρ0 := F) (by simp [-a_mFor, -a_mLc, -a_mWhile, -a_mCallM, mVar, a_gSet, a_gTup, a_gLst, a_gsC, a_gsN, asBl, ctOf, setCt, ctL, ctLen, frz, itemsOf, Ct.toD, size_le, wipeE, F]) (by simp) (by rfl) (fun b _ => by
      cases b
      · simp [-a_mFor, -a_mLc, -a_mWhile, -a_mCallM, mVar, a_gSet, a_gTup, a_gLst, a_gsC, a_gsN, asBl, ctOf, setCt, ctL, ctLen, frz, itemsOf, Ct.toD, size_le, wipeE, F, t1]
      · simp [-a_mFor, -a_mLc, -a_mWhile, -a_mCallM, mVar, a_gSet, a_gTup, a_gLst, a_gsC, a_gsN, asBl, ctOf, setCt, ctL, ctLen, frz, itemsOf, Ct.toD, size_le, wipeE, F, t2])]
    have sz : 4 ≤ sizeLine := by decide
    simp [-a_mFor, -a_mLc, -a_mWhile, -a_mCallM, mVar, a_gSet, a_gTup, a_gLst, a_gsC, a_gsN, asBl, ctOf, setCt, ctL, ctLen, frz, itemsOf, Ct.toD, size_le, wipeE, F, opAdd, sz, s1, t3, s2, l1, s3]
    refine Ev.mono (tailH_ok (n := n + 5) (pot := pot2) (T := 4 * T) (A := 2 * u) (B := 2 * v) (M := 4 * w + u + v) (K := 4 * x + u + v) (s5 := .val (dQ rr)) (s8 := .un) rfl rfl p2 (by omega) (by omega) (by omega) (by omega)) fun o ⟨d, c, r, h1, h2⟩ => ⟨d, c, ⟨r, h1⟩, h2⟩
  · simp [-a_mFor, -a_mLc, -a_mWhile, -a_mCallM, mVar, a_gSet, a_gTup, a_gLst, a_gsC, a_gsN, asBl, ctOf, setCt, ctL, ctLen, frz, itemsOf, Ct.toD, size_le, wipeE, opEq_int, hz]
    refine Ev.mono (tailH_ok (n := n + 5) (pot := pot2) (T := T) (A := u) (B := v) (M := w) (K := x) (s5 := .un) (s8 := .un) rfl rfl p2 (by omega) (by omega) (by omega) hT) fun o ⟨d, c, r, h1, h2⟩ => ⟨d, c, ⟨r, h1⟩, h2⟩
end DF
namespace DF
open PySem PySem.Spec L2 Evl TL
theorem chances4 {a b m k p q : Rat} (h : HB a b m k p q) : Mi.m_check_chances [.val (.tup [dQ a, dQ b, dQ m, dQ k])] = .ok (.non, [.val (.tup [dQ a, dQ b, dQ m, dQ k])]) := by
  have hq := (qs_of (qs := [a, b, m, k]) (k := 10) (n := 4) (fun q hq => by
    simp only [List.mem_cons, List.not_mem_nil, or_false] at hq
    rcases hq with rfl | rfl | rfl | rfl
    · exact h.qa
    · exact h.qb
    · exact h.qm
    · exact h.qk) (by simp) (by decide)).1
  exact check_chances_ok (qs := [a, b, m, k]) (by simp) hq (fun q hq => by
    simp only [List.mem_cons, List.not_mem_nil, or_false] at hq
    rcases hq with rfl | rfl | rfl | rfl
    · exact h.a0
    · exact h.b0
    · exact h.m0
    · exact h.k0) (by have := h.one; simp only [ls]; grind)
theorem check_handed_ok {a b m k p q : Rat} (h : HB a b m k p q) : Mi.m_check_handed [.val (dQ a), .val (dQ b), .val (dQ m), .val (dQ k), .val (dQ p), .val (dQ q)] = .ok (.non, [.val (dQ a), .val (dQ b), .val (dQ m), .val (dQ k), .val (dQ p), .val (dQ q)]) := by
  have c := chances4 h
  have k1 := check_part_ok (qb_mono h.qp (by decide)) h.p0 h.p1
  have k2 := check_part_ok (qb_mono h.qq (by decide)) h.q0 h.q1
  have e1 : opEq (dQ p) (.tup [.int 1, .int 1]) = some (.bl (@decide (p = 1) (Classical.propDecidable _))) := opEq_dQ p 1
  have e2 : opEq (dQ q) (.tup [.int 1, .int 1]) = some (.bl (@decide (q = 1) (Classical.propDecidable _))) := opEq_dQ q 1
  refine fun_n rfl ?_
  unfold Mi.M_check_handed
  by_cases hp : p = 1
  · have hq : ¬ q = 1 := fun z => by
      have := h.pq
      rw [hp, z] at this
      exact absurd this (by decide +kernel)
    have e1' : opEq (dQ p) (.tup [.int 1, .int 1]) = some (.bl true) := by rw [e1]; simp [hp]
    have e2' : opEq (dQ q) (.tup [.int 1, .int 1]) = some (.bl false) := by rw [e2]; simp [hq]
    simp [-a_mFor, -a_mLc, -a_mWhile, -a_mCallM, mVar, a_gSet, a_gTup, a_gLst, a_gsC, a_gsN, asBl, ctOf, setCt, ctL, ctLen, frz, itemsOf, Ct.toD, size_le, wipeE, c, k1, k2, e1', e2']
  · have e1' : opEq (dQ p) (.tup [.int 1, .int 1]) = some (.bl false) := by rw [e1]; simp [hp]
    simp [-a_mFor, -a_mLc, -a_mWhile, -a_mCallM, mVar, a_gSet, a_gTup, a_gLst, a_gsC, a_gsN, asBl, ctOf, setCt, ctL, ctLen, frz, itemsOf, Ct.toD, size_le, wipeE, c, k1, k2, e1']
theorem qone : QB 2 1 := ⟨by decide, by decide⟩
theorem pq_qb {a b m k p q : Rat} (h : HB a b m k p q) : QB 30 (1 - p * q) := qb_mono (qone.sub' (h.qp.mul' h.qq)) (by decide)
theorem lo_qb {a b m k p q : Rat} (h : HB a b m k p q) : QB 150 (lo1 a b m p q) ∧ QB 150 (lo2 a b k p q) :=
  ⟨qb_mono (((h.qa.add' (h.qq.mul' h.qb)).div' (pq_qb h) (ne_of_pos h.pq)).div' h.qm (ne_of_pos h.m0)) (by decide), qb_mono (((h.qb.add' (h.qp.mul' h.qa)).div' (pq_qb h) (ne_of_pos h.pq)).div' h.qk (ne_of_pos h.k0)) (by decide)⟩
theorem loads_ok {a b m k p q : Rat} (h : HB a b m k p q) : Mi.m_loads [.val (dQ a), .val (dQ b), .val (dQ m), .val (dQ k), .val (dQ p), .val (dQ q)] = .ok (.tup [dQ (lo1 a b m p q), dQ (lo2 a b k p q)], [.val (dQ a), .val (dQ b), .val (dQ m), .val (dQ k), .val (dQ p), .val (dQ q)]) := by
  have c := check_handed_ok h
  have n1 := ne_of_pos h.pq
  have t1 := m_times_ok (qb_mono h.qp (b := 4000) (by decide)) (qb_mono h.qq (by decide))
  have l1 : Mi.m_less [.val (.tup [.int 1, .int 1]), .val (dQ (p * q))] = .ok (dQ (1 - p * q), [.val (.tup [.int 1, .int 1]), .val (dQ (p * q))]) := m_less_ok (p := 1) qb_one' (qb_mono (h.qp.mul' h.qq) (by decide))
  have t2 := m_times_ok (qb_mono h.qq (b := 4000) (by decide)) (qb_mono h.qb (by decide))
  have t3 := m_times_ok (qb_mono h.qp (b := 4000) (by decide)) (qb_mono h.qa (by decide))
  have q2 := h.qq.mul' h.qb
  have q3 := h.qp.mul' h.qa
  have s2 := m_plus_ok (qb_mono h.qa (b := 4000) (by decide)) (qb_mono q2 (by decide))
  have s3 := m_plus_ok (qb_mono h.qb (b := 4000) (by decide)) (qb_mono q3 (by decide))
  have r2 := h.qa.add' q2
  have r3 := h.qb.add' q3
  have o2 := over_ok (qb_mono r2 (b := 4000) (by decide)) (qb_mono (pq_qb h) (by decide)) n1
  have o3 := over_ok (qb_mono r3 (b := 4000) (by decide)) (qb_mono (pq_qb h) (by decide)) n1
  have o4 := over_ok (qb_mono (r2.div' (pq_qb h) n1) (b := 4000) (by decide)) (qb_mono h.qm (by decide)) (ne_of_pos h.m0)
  have o5 := over_ok (qb_mono (r3.div' (pq_qb h) n1) (b := 4000) (by decide)) (qb_mono h.qk (by decide)) (ne_of_pos h.k0)
  refine fun_v rfl ?_
  unfold Mi.M_loads
  simp [-a_mFor, -a_mLc, -a_mWhile, -a_mCallM, mVar, a_gSet, a_gTup, a_gLst, a_gsC, a_gsN, asBl, ctOf, setCt, ctL, ctLen, frz, itemsOf, Ct.toD, size_le, wipeE, c, t1, l1, t2, t3, s2, s3, o2, o3, o4, o5, lo1, lo2]
theorem law_loads_ok {a b m k p q : Rat} (h : HB a b m k p q) : Mi.m__law_loads [.val (hndD a b m k p q)] = .ok (.tup [dQ (lo1 a b m p q), dQ (lo2 a b k p q)], [.val (hndD a b m k p q)]) := by
  have n1 := ne_of_pos h.pq
  have t1 := m__law_frac_times_ok (qb_mono h.qp (b := 4000) (by decide)) (qb_mono h.qq (by decide))
  have l1 : Mi.m__law_frac_less [.val (.tup [.int 1, .int 1]), .val (dQ (p * q))] = .ok (dQ (1 - p * q), [.val (.tup [.int 1, .int 1]), .val (dQ (p * q))]) := m__law_frac_less_ok (p := 1) qb_one' (qb_mono (h.qp.mul' h.qq) (by decide))
  have t2 := m__law_frac_times_ok (qb_mono h.qq (b := 4000) (by decide)) (qb_mono h.qb (by decide))
  have t3 := m__law_frac_times_ok (qb_mono h.qp (b := 4000) (by decide)) (qb_mono h.qa (by decide))
  have q2 := h.qq.mul' h.qb
  have q3 := h.qp.mul' h.qa
  have s2 := m__law_frac_plus_ok (qb_mono h.qa (b := 4000) (by decide)) (qb_mono q2 (by decide))
  have s3 := m__law_frac_plus_ok (qb_mono h.qb (b := 4000) (by decide)) (qb_mono q3 (by decide))
  have r2 := h.qa.add' q2
  have r3 := h.qb.add' q3
  have o2 := law_over_ok (qb_mono r2 (b := 4000) (by decide)) (qb_mono (pq_qb h) (by decide)) n1
  have o3 := law_over_ok (qb_mono r3 (b := 4000) (by decide)) (qb_mono (pq_qb h) (by decide)) n1
  have o4 := law_over_ok (qb_mono (r2.div' (pq_qb h) n1) (b := 4000) (by decide)) (qb_mono h.qm (by decide)) (ne_of_pos h.m0)
  have o5 := law_over_ok (qb_mono (r3.div' (pq_qb h) n1) (b := 4000) (by decide)) (qb_mono h.qk (by decide)) (ne_of_pos h.k0)
  refine fun_v rfl ?_
  unfold Mi.M__law_loads
  simp [-a_mFor, -a_mLc, -a_mWhile, -a_mCallM, mVar, a_gSet, a_gTup, a_gLst, a_gsC, a_gsN, asBl, ctOf, setCt, ctL, ctLen, frz, itemsOf, Ct.toD, size_le, wipeE, t1, l1, t2, t3, s2, s3, o2, o3, o4, o5, lo1, lo2]
theorem handed_on_ok {a b m k p q : Rat} (hh : Hnd a b m k p q) : Mi.m_handed_on [.val (dQ a), .val (dQ b), .val (dQ m), .val (dQ k), .val (dQ p), .val (dQ q)] = .ok (bkO (hoR a b m k p q), [.val (dQ a), .val (dQ b), .val (dQ m), .val (dQ k), .val (dQ p), .val (dQ q)]) := by
  have h := hh.b
  have c := check_handed_ok h
  have l1 : Mi.m_less [.val (.tup [.int 1, .int 1]), .val (dQ p)] = .ok (dQ (1 - p), [.val (.tup [.int 1, .int 1]), .val (dQ p)]) := m_less_ok (p := 1) qb_one' (qb_mono h.qp (by decide))
  have l2 : Mi.m_less [.val (.tup [.int 1, .int 1]), .val (dQ q)] = .ok (dQ (1 - q), [.val (.tup [.int 1, .int 1]), .val (dQ q)]) := m_less_ok (p := 1) qb_one' (qb_mono h.qq (by decide))
  have t1 := m_times_ok (qb_mono h.qm (b := 4000) (by decide)) (qb_mono h.qp (by decide))
  have t2 := m_times_ok (qb_mono h.qm (b := 4000) (by decide)) (qb_mono (qone.sub' h.qp) (by decide))
  have t3 := m_times_ok (qb_mono h.qk (b := 4000) (by decide)) (qb_mono h.qq (by decide))
  have t4 := m_times_ok (qb_mono h.qk (b := 4000) (by decide)) (qb_mono (qone.sub' h.qq) (by decide))
  have cm := coming_ok a b
  have md := made_ok (handed_steps hh)
  have md' : Mi.m_made [.val (.lst (([⟨1, 0, a⟩, ⟨0, 1, b⟩] : List Row).map stpD)), .val (.lst [.tup [.tup [.int (-1), .int 1], dQ (m * p)], .tup [.tup [.int (-1), .int 0], dQ (m * (1 - p))]]), .val (.lst [.tup [.tup [.int 1, .int (-1)], dQ (k * q)], .tup [.tup [.int 0, .int (-1)], dQ (k * (1 - q))]]),
      .val (.lst [.tup [.tup [.int (-1), .int 1], dQ (m * p)], .tup [.tup [.int (-1), .int 0], dQ (m * (1 - p))], .tup [.tup [.int 1, .int (-1)], dQ (k * q)], .tup [.tup [.int 0, .int (-1)], dQ (k * (1 - q))]])] = .ok (bkO (hoR a b m k p q), _) := md
  refine fun_v rfl ?_
  unfold Mi.M_handed_on
  generalize hC : (([⟨1, 0, a⟩, ⟨0, 1, b⟩] : List Row).map stpD) = C at *
  have sz : 4 ≤ sizeLine := by decide
  simp [-a_mFor, -a_mLc, -a_mWhile, -a_mCallM, mVar, a_gSet, a_gTup, a_gLst, a_gsC, a_gsN, asBl, ctOf, setCt, ctL, ctLen, frz, itemsOf, Ct.toD, size_le, wipeE, c, l1, l2, t1, t2, t3, t4, opNeg, cm, seqOf, sz, md']
theorem law_handed_ok {a b m k p q : Rat} (hh : Hnd a b m k p q) : Mi.m__law_handed [.val (hndD a b m k p q)] = .ok (bkD (hoR a b m k p q), [.val (hndD a b m k p q)]) := by
  have h := hh.b
  have st := handed_steps hh
  have l1 : Mi.m__law_frac_less [.val (.tup [.int 1, .int 1]), .val (dQ p)] = .ok (dQ (1 - p), [.val (.tup [.int 1, .int 1]), .val (dQ p)]) := m__law_frac_less_ok (p := 1) qb_one' (qb_mono h.qp (by decide))
  have l2 : Mi.m__law_frac_less [.val (.tup [.int 1, .int 1]), .val (dQ q)] = .ok (dQ (1 - q), [.val (.tup [.int 1, .int 1]), .val (dQ q)]) := m__law_frac_less_ok (p := 1) qb_one' (qb_mono h.qq (by decide))
  have t1 := m__law_frac_times_ok (qb_mono h.qm (b := 4000) (by decide)) (qb_mono h.qp (by decide))
  have t2 := m__law_frac_times_ok (qb_mono h.qm (b := 4000) (by decide)) (qb_mono (qone.sub' h.qp) (by decide))
  have t3 := m__law_frac_times_ok (qb_mono h.qk (b := 4000) (by decide)) (qb_mono h.qq (by decide))
  have t4 := m__law_frac_times_ok (qb_mono h.qk (b := 4000) (by decide)) (qb_mono (qone.sub' h.qq) (by decide))
  have r0 := law_rows_ok (st 0 (by decide))
  rw [show mkR (mdS (cmS a b) (fiH m p) (seH k q) (boH m k p q) 0) = hoR a b m k p q 0 from rfl] at r0
  simp only [mdS, cmS, fiH, seH, boH, rowsD, List.map_cons, List.map_nil, List.cons_append, List.nil_append, rowD] at r0
  have r1 := law_rows_ok (st 1 (by decide))
  rw [show mkR (mdS (cmS a b) (fiH m p) (seH k q) (boH m k p q) 1) = hoR a b m k p q 1 from rfl] at r1
  simp only [mdS, cmS, fiH, seH, boH, rowsD, List.map_cons, List.map_nil, List.cons_append, List.nil_append, rowD] at r1
  have r2 := law_rows_ok (st 2 (by decide))
  rw [show mkR (mdS (cmS a b) (fiH m p) (seH k q) (boH m k p q) 2) = hoR a b m k p q 2 from rfl] at r2
  simp only [mdS, cmS, fiH, seH, boH, rowsD, List.map_cons, List.map_nil, List.cons_append, List.nil_append, rowD] at r2
  have r3 := law_rows_ok (st 3 (by decide))
  rw [show mkR (mdS (cmS a b) (fiH m p) (seH k q) (boH m k p q) 3) = hoR a b m k p q 3 from rfl] at r3
  simp only [mdS, cmS, fiH, seH, boH, rowsD, List.map_cons, List.map_nil, List.cons_append, List.nil_append, rowD] at r3
  refine fun_v rfl ?_
  unfold Mi.M__law_handed
  generalize hoR a b m k p q = R at *
  have s4 : 4 ≤ sizeLine := by decide
  have s6 : 6 ≤ sizeLine := by decide
  simp [-a_mFor, -a_mLc, -a_mWhile, -a_mCallM, mVar, a_gSet, a_gTup, a_gLst, a_gsC, a_gsN, asBl, ctOf, setCt, ctL, ctLen, frz, itemsOf, Ct.toD, size_le, wipeE, a_mUpd, ctD, l1, l2, t1, t2, t3, t4, opNeg, opAdd, s4, s6, r0, r1, r2, r3]
  have hk : updD (putD (putD [] "inside" (.lst (rowsD (R 0)))) "first" (.lst (rowsD (R 1)))) (putD (putD [] "second" (.lst (rowsD (R 2)))) "none" (.lst (rowsD (R 3)))) = kvL R 4 := rfl
  have hz : (putD (putD [] "inside" (.lst (rowsD (R 0)))) "first" (.lst (rowsD (R 1)))).length + (putD (putD [] "second" (.lst (rowsD (R 2)))) "none" (.lst (rowsD (R 3)))).length ≤ sizeLine := size_le (n := 4) (by decide)
  rw [if_pos hz]
  simp [-a_mFor, -a_mLc, -a_mWhile, -a_mCallM, mVar, a_gSet, a_gTup, a_gLst, a_gsC, a_gsN, asBl, ctOf, setCt, ctL, ctLen, frz, itemsOf, Ct.toD, size_le, wipeE, hk, bkD]
theorem product_ok {m k r : Rat} (hm : QB 100 m) (hk : QB 100 k) (hr : QB 100 r) : Mi.m__law_frac_product [.val (.lst [dQ m, dQ k, dQ r])] = .ok (dQ (m * k * r), [.val (.lst [dQ m, dQ k, dQ r])]) := by
  have t1 : Mi.m__law_frac_times [.val (.tup [.int 1, .int 1]), .val (dQ m)] = .ok (dQ (1 * m), [.val (.tup [.int 1, .int 1]), .val (dQ m)]) := m__law_frac_times_ok (p := 1) qb_one' (qb_mono hm (by decide))
  rw [Rat.one_mul] at t1
  have t2 := m__law_frac_times_ok (qb_mono hm (b := 4000) (by decide)) (qb_mono hk (by decide))
  have t3 := m__law_frac_times_ok (qb_mono (hm.mul' hk) (b := 4000) (by decide)) (qb_mono hr (by decide))
  refine fun_v rfl ?_
  unfold Mi.M__law_frac_product
  simp [-a_mFor, -a_mLc, -a_mWhile, -a_mCallM, mVar, a_gSet, a_gTup, a_gLst, a_gsC, a_gsN, asBl, ctOf, setCt, ctL, ctLen, frz, itemsOf, Ct.toD, size_le, wipeE]
  rw [ev_for_open (ds := [dQ m, dQ k, dQ r]) (ρ0 := [.val (.lst [dQ m, dQ k, dQ r]), .val (.tup [.int 1, .int 1]), .un]) (by simp [-a_mFor, -a_mLc, -a_mWhile, -a_mCallM, mVar, a_gSet, a_gTup, a_gLst, a_gsC, a_gsN, asBl, ctOf, setCt, ctL, ctLen, frz, itemsOf, Ct.toD, size_le, wipeE])]
  simp [-a_mFor, -a_mLc, -a_mWhile, -a_mCallM, mVar, a_gSet, a_gTup, a_gLst, a_gsC, a_gsN, asBl, ctOf, setCt, ctL, ctLen, frz, itemsOf, Ct.toD, size_le, wipeE, ev_go_cons, ev_go_nil, fq_nxt, t1, t2, t3]
theorem are_turns_ok {a b m k p q : Rat} (h : HB a b m k p q) : Mi.m__law_are_turns_right [.val (hndD a b m k p q), .val (.tup [dQ (tA (hoR a b m k p q)), dQ (tB (hoR a b m k p q))])] = .ok (.bl true, [.val (hndD a b m k p q), .val (.tup [dQ (tA (hoR a b m k p q)), dQ (tB (hoR a b m k p q))])]) := by
  obtain ⟨e1, e2⟩ := handed_turns h
  rw [e1, e2]
  have hl := law_loads_ok h
  obtain ⟨q1, q2⟩ := lo_qb h
  have t1 := m__law_frac_times_ok (qb_mono h.qp (b := 4000) (by decide)) (qb_mono h.qq (by decide))
  have l1 : Mi.m__law_frac_less [.val (.tup [.int 1, .int 1]), .val (dQ (p * q))] = .ok (dQ (1 - p * q), [.val (.tup [.int 1, .int 1]), .val (dQ (p * q))]) := m__law_frac_less_ok (p := 1) qb_one' (qb_mono (h.qp.mul' h.qq) (by decide))
  have pr := product_ok (qb_mono h.qm (b := 100) (by decide)) (qb_mono h.qk (by decide)) (qb_mono (pq_qb h) (by decide))
  have qc : QB 100 (m * k * (1 - p * q)) := qb_mono ((h.qm.mul' h.qk).mul' (pq_qb h)) (by decide)
  generalize m * k * (1 - p * q) = c at *
  generalize lo1 a b m p q = x at *
  generalize lo2 a b k p q = y at *
  have l2 : Mi.m__law_frac_less [.val (dQ x), .val (.tup [.int 1, .int 1])] = .ok (dQ (x - 1), [.val (dQ x), .val (.tup [.int 1, .int 1])]) := m__law_frac_less_ok (q := 1) (qb_mono q1 (by decide)) qb_one'
  have l3 : Mi.m__law_frac_less [.val (dQ y), .val (.tup [.int 1, .int 1])] = .ok (dQ (y - 1), [.val (dQ y), .val (.tup [.int 1, .int 1])]) := m__law_frac_less_ok (q := 1) (qb_mono q2 (by decide)) qb_one'
  have t2 := m__law_frac_times_ok (qb_mono qc (b := 4000) (by decide)) (qb_mono (q1.sub' qone) (by decide))
  have t3 := m__law_frac_times_ok (qb_mono qc (b := 4000) (by decide)) (qb_mono (q2.sub' qone) (by decide))
  have he := eq_qq (c * (x - 1)) (c * (y - 1))
  refine fun_v rfl ?_
  unfold Mi.M__law_are_turns_right
  simp [-a_mFor, -a_mLc, -a_mWhile, -a_mCallM, mVar, a_gSet, a_gTup, a_gLst, a_gsC, a_gsN, asBl, ctOf, setCt, ctL, ctLen, frz, itemsOf, Ct.toD, size_le, wipeE, t1, l1, pr]
  rw [lc_map [x, y] dQ (fun z => dQ (c * (z - 1))) (ρ0 := [.val (hndD a b m k p q), .val (.tup [dQ (c * (x - 1)), dQ (c * (y - 1))]), .val (dQ a), .val (dQ b), .val (dQ m), .val (dQ k), .val (dQ p), .val (dQ q), .val (dQ c), .un]) (by simp [-a_mFor, -a_mLc, -a_mWhile, -a_mCallM, mVar, a_gSet, a_gTup, a_gLst, a_gsC, a_gsN, asBl, ctOf, setCt, ctL, ctLen, frz, itemsOf, Ct.toD, size_le, wipeE, hl]) (by simp) (by rfl) (fun z hz => by
    simp only [List.mem_cons, List.not_mem_nil, or_false] at hz
    rcases hz with rfl | rfl
    · simp [-a_mFor, -a_mLc, -a_mWhile, -a_mCallM, mVar, a_gSet, a_gTup, a_gLst, a_gsC, a_gsN, asBl, ctOf, setCt, ctL, ctLen, frz, itemsOf, Ct.toD, size_le, wipeE, l2, t2]
    · simp [-a_mFor, -a_mLc, -a_mWhile, -a_mCallM, mVar, a_gSet, a_gTup, a_gLst, a_gsC, a_gsN, asBl, ctOf, setCt, ctL, ctLen, frz, itemsOf, Ct.toD, size_le, wipeE, l3, t3])]
  simp [-a_mFor, -a_mLc, -a_mWhile, -a_mCallM, mVar, a_gSet, a_gTup, a_gLst, a_gsC, a_gsN, asBl, ctOf, setCt, ctL, ctLen, frz, itemsOf, Ct.toD, size_le, wipeE, fTuple, he]
theorem turn_qb' {rs : Nat → List Row} (h : BOk rs) : QB 1700 (tA rs) ∧ QB 1700 (tB rs) := by
  obtain ⟨mx, my⟩ := mean_b h (k := 0) (by decide)
  obtain ⟨ax, ay⟩ := mean_b h (k := 1) (by decide)
  obtain ⟨bx, by_⟩ := mean_b h (k := 2) (by decide)
  exact ⟨qb_mono ((ay.mul' mx).sub' (ax.mul' my)) (by decide), qb_mono ((bx.mul' my).sub' (by_.mul' mx)) (by decide)⟩
theorem exchanged_loads {a b m k p q : Rat} : lo1 b a k q p = lo2 a b k p q ∧ lo2 b a m q p = lo1 a b m p q := by
  unfold lo1 lo2
  rw [Rat.mul_comm q p]
  exact ⟨rfl, rfl⟩
theorem HB.sw {a b m k p q : Rat} (h : HB a b m k p q) : HB b a k m q p :=
  { a0 := h.b0, b0 := h.a0, m0 := h.k0, k0 := h.m0, one := by have := h.one; grind, p0 := h.q0, p1 := h.q1, q0 := h.p0, q1 := h.p1, pq := by have := h.pq; rw [Rat.mul_comm]; exact this, qa := h.qb, qb := h.qa, qm := h.qk, qk := h.qm, qp := h.qq, qq := h.qp }
theorem right_ok {n : Nat} {pot : List D} (h : PotOk n pot) (hn : n + 10000 < 2 ^ 60) : ∃ pot', Mi.m__law_right [.pin (.lst pot)] = .ok (.bl true, [.pin (.lst pot')]) := by
  suffices hh : ∃ d c', Mi.m__law_right [.pin (.lst pot)] = .ok (d, [.pin c']) ∧ (d = .bl true ∧ ∃ pot', c' = .lst pot') by
    obtain ⟨d, c', e, rfl, pot', rfl⟩ := hh
    exact ⟨pot', e⟩
  obtain ⟨a, b, m, k, p, q, pot1, e1, ht, p1⟩ := law_told_ok h (by omega)
  have hb := ht.b
  have hR : BOk (hoR a b m k p q) := mdR_ok (handed_steps ht)
  have h1 := law_handed_ok ht
  have h2 := law_loads_ok hb
  have h3 := handed_on_ok ht
  have h4 := book_text_ok hR
  have h5 := loads_ok hb
  have h6 := loads_ok hb.sw
  rw [(exchanged_loads (a := a) (b := b) (m := m) (k := k) (p := p) (q := q)).1, (exchanged_loads (a := a) (b := b) (m := m) (k := k) (p := p) (q := q)).2] at h6
  have h7 := turns_ok hR
  have h8 := law_turns_ok hR
  have h9 := are_turns_ok hb
  have h10 := border_ok hR
  have h11 := law_border_ok hR
  obtain ⟨q1, q2⟩ := lo_qb hb
  obtain ⟨q3, q4⟩ := turn_qb' hR
  have hp := handed_plain hb
  have hh := does_come_home_ok hR
  have hw := bd_word (hoR a b m k p q)
  obtain ⟨s1, w1⟩ := repr_ok (rq_qq 1 (qb_mono q1 (b := 1900) (by decide)) (qb_mono q2 (by decide))) (by decide) (by decide)
  obtain ⟨s2, w2⟩ := repr_ok (rq_qq 1 (qb_mono q2 (b := 1900) (by decide)) (qb_mono q1 (by decide))) (by decide) (by decide)
  obtain ⟨s3, w3⟩ := repr_ok (rq_qq 1 (qb_mono q3 (b := 1900) (by decide)) (qb_mono q4 (by decide))) (by decide) (by decide)
  obtain ⟨s4, w4⟩ := repr_bd (hoR a b m k p q)
  have l1 : Mi.m__law_frac_is_less [.val (dQ (lo1 a b m p q)), .val (.tup [.int 1, .int 1])] = .ok (.bl (decide (lo1 a b m p q < 1)), [.val (dQ (lo1 a b m p q)), .val (.tup [.int 1, .int 1])]) := is_less_ok (q := 1) (qb_mono q1 (by decide)) qb_one'
  have l2 : Mi.m__law_frac_is_less [.val (dQ (lo2 a b k p q)), .val (.tup [.int 1, .int 1])] = .ok (.bl (decide (lo2 a b k p q < 1)), [.val (dQ (lo2 a b k p q)), .val (.tup [.int 1, .int 1])]) := is_less_ok (q := 1) (qb_mono q2 (by decide)) qb_one'
  generalize hoR a b m k p q = R at *
  generalize lo1 a b m p q = x at *
  generalize lo2 a b k p q = y at *
  have n0 := opNe_strs (bookText R)
  have n1 := opNe_strs s1
  have n2 := opNe_strs s2
  have n3 := opNe_strs s3
  have n4 := opNe_strs s4
  have x1 : opIx (.tup [dQ x, dQ y]) (.int 1) = some (dQ y) := rfl
  have x0 : opIx (.tup [dQ x, dQ y]) (.int 0) = some (dQ x) := rfl
  refine fun_p rfl ?_
  unfold Mi.M__law_right
  simp [-a_mFor, -a_mLc, -a_mWhile, -a_mCallM, mVar, a_gSet, a_gTup, a_gLst, a_gsC, a_gsN, asBl, ctOf, setCt, ctL, ctLen, frz, itemsOf, Ct.toD, size_le, wipeE]
  rw [a_mCallM]
  simp [-a_mFor, -a_mLc, -a_mWhile, -a_mCallM, mVar, a_gSet, a_gTup, a_gLst, a_gsC, a_gsN, asBl, ctOf, setCt, ctL, ctLen, frz, itemsOf, Ct.toD, size_le, wipeE, e1, h1, h2, h3]
  rw [pt_ok rfl]
  simp [-a_mFor, -a_mLc, -a_mWhile, -a_mCallM, mVar, a_gSet, a_gTup, a_gLst, a_gsC, a_gsN, asBl, ctOf, setCt, ctL, ctLen, frz, itemsOf, Ct.toD, size_le, wipeE, h4, n0, h5, w1, n1, h6, x0, x1, w2, n2, h7, h8, w3, n3, h9, h10, h11, w4, n4]
  rw [lc_map [x, y] dQ (fun z => .bl (decide (z < 1))) (ρ0 := [.pin (.lst pot1), .val (hndD a b m k p q), .val (dQ a), .val (dQ b), .val (dQ m), .val (dQ k), .val (dQ p), .val (dQ q), .val (bkD R), .val (.tup [dQ x, dQ y]), .val (bkO R), .val (bdD R), .un, .un]) (by simp [-a_mFor, -a_mLc, -a_mWhile, -a_mCallM, mVar, a_gSet, a_gTup, a_gLst, a_gsC, a_gsN, asBl, ctOf, setCt, ctL, ctLen, frz, itemsOf, Ct.toD, size_le, wipeE]) (by simp) (by rfl) (fun z hz => by
    simp only [List.mem_cons, List.not_mem_nil, or_false] at hz
    rcases hz with rfl | rfl
    · simp [-a_mFor, -a_mLc, -a_mWhile, -a_mCallM, mVar, a_gSet, a_gTup, a_gLst, a_gsC, a_gsN, asBl, ctOf, setCt, ctL, ctLen, frz, itemsOf, Ct.toD, size_le, wipeE, l1]
    · simp [-a_mFor, -a_mLc, -a_mWhile, -a_mCallM, mVar, a_gSet, a_gTup, a_gLst, a_gsC, a_gsN, asBl, ctOf, setCt, ctL, ctLen, frz, itemsOf, Ct.toD, size_le, wipeE, l2])]
  have ha : fAll [.lst [.bl (decide (x < 1)), .bl (decide (y < 1))]] = some (.bl (decide (x < 1) && decide (y < 1))) := by
    cases decide (x < 1) <;> cases decide (y < 1) <;> rfl
  rcases hw with hw | ⟨w, hw, _⟩
  · have hd := hh hw
    rw [hp hw] at hd
    obtain ⟨s5, w5⟩ := repr_ok (rq_bl 1 (decide (x < 1) && decide (y < 1))) (by decide) (by decide)
    have n5 : opEq (.str s5) (.str s5) = some (.bl true) := by simp [opEq, eqD]
    rw [hw]
    simp [-a_mFor, -a_mLc, -a_mWhile, -a_mCallM, mVar, a_gSet, a_gTup, a_gLst, a_gsC, a_gsN, asBl, ctOf, setCt, ctL, ctLen, frz, itemsOf, Ct.toD, size_le, wipeE, ha, opIsNot, isNon, hd, w5, n5]
    exact ⟨_, _, ⟨rfl, rfl⟩, rfl, _, rfl⟩
  · rw [hw]
    simp [-a_mFor, -a_mLc, -a_mWhile, -a_mCallM, mVar, a_gSet, a_gTup, a_gLst, a_gsC, a_gsN, asBl, ctOf, setCt, ctL, ctLen, frz, itemsOf, Ct.toD, size_le, wipeE, ha, opIsNot, isNon]
    exact ⟨_, _, ⟨rfl, rfl⟩, rfl, _, rfl⟩
end DF
namespace DF
open PySem PySem.Spec L2 Evl TL
/-! ### the pot -/
theorem cellv_ok (ns : List Int) (p : Nat) (hp : p ≤ 10) : ∃ c : Int, mIf (mTest (mBin opLt (mVar 1) (mCallN fLen (mCons (mVar 0) (mNil))))) (mBin opIx (mVar 0) (mVar 1)) (mBin opAdd (mBin opAdd (mBin opMod (mCallN fSum (mCons (mSl (mVar 0) (mNoPart) (mPart (mC (.int (1))))) (mNil))) (mC (.int (1000003)))) (mBin opMul (mC (.int (4262))) (mVar 1))) (mC (.int (2766)))) [.val (.scr ns), .val (.int p), .un, .un, .un] = .ok (.int c, [.val (.scr ns), .val (.int p), .un, .un, .un]) := by
  have hl : fLen [.scr ns] = some (.int ns.length) := rfl
  by_cases h : p < ns.length
  · have h' : (p : Int) < (ns.length : Int) := by omega
    obtain ⟨c, hc, _⟩ := atI_nat (ds := ns) (r := (p : Int)) (by omega) h'
    have hx : opIx (.scr ns) (.int p) = some (.int c) := by simp only [opIx, hc]; rfl
    exact ⟨c, by simp [mVar, hl, opLt, asBl, h, hx]⟩
  · have h' : ¬ (p : Int) < (ns.length : Int) := by omega
    obtain ⟨l, hsl⟩ : ∃ l : List Int, opSl (.scr ns) none (some 1) = some (.lst (l.map .int)) := by
      refine ⟨(ns.drop (HT.sIx (ns.map D.int).length 0 none)).take (HT.sIx (ns.map D.int).length (ns.map D.int).length (some 1) - HT.sIx (ns.map D.int).length 0 none), ?_⟩
      simp only [opSl, cutD, List.map_take, List.map_drop]
    have s1 : Sm 4262 := sm_le (by decide) (by decide)
    have s2 : Sm (p : Int) := sm_le (by omega) (by omega)
    exact ⟨_, by simp [mVar, hl, opLt, asBl, h, hsl, fSum, intsOf_map, opMod_ok, opMul_ok s1 s2, opAdd]; rfl⟩
theorem seqL_nxt {m1 : MS} {m2 : MSL} {ρ ρ' : Env} (hp : plainE ρ = true) (h : m1 ρ = .ok (.nxt ρ')) : mSeqL m1 m2 ρ = m2 ρ' := by
  unfold mSeqL
  rw [if_pos hp, h]
  rfl
theorem pot_ok (ns : List Int) (p : Nat) (hp : p ≤ 10) : ∃ pot ρ', Mi.m__law_pot [.val (.scr ns), .val (.int p)] = .ok (.lst pot, ρ') ∧ PotOk 0 pot := by
  obtain ⟨c, hc⟩ := cellv_ok ns p hp
  have p60 : opPow (.int 10) (.int 60) = some (.int (10 ^ 60)) := opPow_ok (i := 10) (k := 60) (by decide) (by decide +kernel) (by decide)
  have p300 : opPow (.int (10 ^ 60)) (.int 5) = some (.int ((10 ^ 60) ^ 5)) := opPow_ok (i := 10 ^ 60) (k := 5) (by decide +kernel) (by decide +kernel) (by decide)
  have p18 : opPow (.int 10) (.int 18) = some (.int (10 ^ 18)) := opPow_ok (i := 10) (k := 18) (by decide) (by decide +kernel) (by decide)
  have hB : (0 : Int) < (10 ^ 60) ^ 5 ∧ ((10 : Int) ^ 60) ^ 5 < 2 ^ 1000 := by decide +kernel
  generalize hb1 : ((10 : Int) ^ 60) = b1 at p60 p300 hB
  generalize hb2 : b1 ^ 5 = B at p300 hB
  generalize hb3 : ((10 : Int) ^ 18) = b3 at p18
  have ha : fAbs [.int c] = some (.int (c.natAbs : Int)) := by simp only [fAbs, abs_eq]
  generalize hn : (c.natAbs : Int) = a at ha
  obtain ⟨r0, r1⟩ := fmod_nn a hB.1
  generalize hr : a.fmod B = r at r0 r1
  have sr : Sm r := by
    have h1 : r < 2 ^ 1000 := Int.lt_trans r1 hB.2
    have h2 : r.natAbs < 2 ^ 1000 := by
      have : ((r.natAbs : Nat) : Int) < ((2 ^ 1000 : Nat) : Int) := by
        rw [Int.natAbs_of_nonneg r0, Int.natCast_pow]
        exact h1
      exact Int.ofNat_lt.mp this
    exact pow_big h2 (by decide)
  let g : Int := if b3 ≤ a then 1 else 0
  have g0 : 0 ≤ g ∧ g ≤ 1 := by simp only [g]; split <;> omega
  have sg : Sm g := sm_le g0.1 (by omega)
  have hg : fInt [.bl (decide (b3 ≤ a))] = some (.int g) := by
    by_cases h : b3 ≤ a
    · simp [fInt, g, h]
    · simp [fInt, g, h]
  obtain ⟨m0, m1⟩ := fmod_nn c (b := 2305843009213693951) (by decide)
  generalize hm : c.fmod 2305843009213693951 = m at m0 m1
  let e : Int := (m * 99828 + 17952 * (p : Int) * (p : Int) + 3254).fmod 2305843009213693921
  obtain ⟨e0, e1⟩ := fmod_nn (m * 99828 + 17952 * (p : Int) * (p : Int) + 3254) (b := 2305843009213693921) (by decide)
  have t1 : Sm m := sm_le m0 (by omega)
  have t2 : Sm 99828 := sm_le (by decide) (by decide)
  have t3 : Sm 17952 := sm_le (by decide) (by decide)
  have t4 : Sm (p : Int) := sm_le (by omega) (by omega)
  have t5 : Sm (17952 * (p : Int)) := sm_le (by omega) (by omega)
  refine ⟨[.int (r * g), .int e, .int 0], [.val (.scr ns), .val (.int p), .val (.int c), .val (.int (r * g)), .val (.int m)], ?_, r * g, e, 0, rfl, Int.mul_nonneg r0 g0.1, e0, by omega, by decide, by decide⟩
  unfold Mi.m__law_pot mFunL
  rw [if_pos (by rfl)]
  unfold Mi.M__law_pot
  refine (seqL_nxt (ρ' := [.val (.scr ns), .val (.int p), .val (.int c), .un, .un]) rfl ?_).trans ((seqL_nxt (ρ' := [.val (.scr ns), .val (.int p), .val (.int c), .val (.int (r * g)), .un]) rfl ?_).trans ((seqL_nxt (ρ' := [.val (.scr ns), .val (.int p), .val (.int c), .val (.int (r * g)), .val (.int m)]) rfl ?_).trans ?_))
  · show mSet _ _ [.val (.scr ns), .val (.int p), .un, .un, .un] = _
    rw [a_mSet, a_mVal, hc]
    rfl
  · have hmod : opMod (.int a) (.int B) = some (.int r) := by rw [opMod_ok (by omega), hr]
    have hge : opGe (.int a) (.int b3) = some (.bl (decide (b3 ≤ a))) := rfl
    have hfi : fInt [.int a] = some (.int a) := rfl
    show mSet _ _ [.val (.scr ns), .val (.int p), .val (.int c), .un, .un] = _
    simp only [a_mSet, a_mVal, a_mBin, a_mCallN, a_mCons, a_mNil, a_mC, mVar, List.getElem?_cons_succ, List.getElem?_cons_zero, ha, hfi, p60, p300, hmod, p18, hge, hg, opMul_ok sr sg, bind_ok, lft_some]
    rfl
  · simp [mVar, fInt, opMod_ok, hm, kd]
  · unfold mRetL
    simp [mVar, fInt, opMod_ok, opMul_ok t1 t2, opMul_ok t3 t4, opMul_ok t5 t4, opAdd, size_le]
    rfl
theorem cells_ok (ns : List Int) : ∃ m : Nat, m ≤ 2 ∧ Mi.m__law_cells [.val (.scr ns), .val (.int 2)] = .ok (.lst (rngD 0 m), [.val (.scr ns), .val (.int 2)]) := by
  have hl : fLen [.scr ns] = some (.int ns.length) := rfl
  have key : ∀ m : Nat, m ≤ 2 → fMax2 [.int 1, .int (if (ns.length : Int) < 2 then (ns.length : Int) else 2)] = some (.int m) → ∃ m : Nat, m ≤ 2 ∧ Mi.m__law_cells [.val (.scr ns), .val (.int 2)] = .ok (.lst (rngD 0 m), [.val (.scr ns), .val (.int 2)]) := fun m hm e => by
    refine ⟨m, hm, fun_ret (ρ' := [.val (.scr ns), .val (.int 2)]) rfl ?_⟩
    have hrg : rgL [.int (m : Int)] = some (rngD 0 m) := by
      have : m = 0 ∨ m = 1 ∨ m = 2 := by omega
      rcases this with rfl | rfl | rfl <;> rfl
    unfold Mi.M__law_cells
    have e1 : mCallN fMax2 (mCons (mC (.int (1))) (mCons (mCallN fMin2 (mCons (mVar 1) (mCons (mCallN fLen (mCons (mVar 0) (mNil))) (mNil)))) (mNil))) [.val (.scr ns), .val (.int 2)] = .ok (.int m, [.val (.scr ns), .val (.int 2)]) := by
      simp only [a_mCallN, a_mCons, a_mC, mVar, List.getElem?_cons_succ, List.getElem?_cons_zero, bind_ok, a_mNil, hl, lft_some, fMin2, e]
    show mRet _ [.val (.scr ns), .val (.int 2)] = _
    rw [a_mRet, a_mOfL, a_mListRg, e1]
    simp only [bind_ok, hrg, lft_some, Ct.toD]
  have hc : ns.length = 0 ∨ ns.length = 1 ∨ 2 ≤ ns.length := by omega
  rcases hc with h | h | h
  · exact key 1 (by decide) (by rw [h]; rfl)
  · exact key 1 (by decide) (by rw [h]; rfl)
  · refine key 2 (by decide) ?_
    rw [if_neg (by omega)]
    rfl
theorem law_true (ns : List Int) (h : ns.length ≤ 63) : ev Mi.m_law [.val (.scr ns)] = some (.bl true) := by
  obtain ⟨m, hm, hc⟩ := cells_ok ns
  have hlc : mLc [1] (mItems (mCall Mi.m__law_cells (mCons (mVar 0) (mCons (mC (.int (2))) (mNil))))) (gSet 1) (mYes) (mCallML Mi.m__law_right (mCallL Mi.m__law_pot (mCons (mVar 0) (mCons (mVar 1) (mNil)))) (mNil)) [.val (.scr ns), .un] = .ok (.lst (List.replicate m (.bl true)), [.val (.scr ns), .un]) := by
    have ei : mItems (mCall Mi.m__law_cells (mCons (mVar 0) (mCons (mC (.int (2))) (mNil)))) [.val (.scr ns), .un] = .ok (rngD 0 m, [.val (.scr ns), .un]) := by
      simp only [a_mItems, a_mCall, a_mCons, a_mVar0, bind_ok, a_mC, a_mNil, List.map_cons, List.map_nil, hc, okR_ok, lft_some, itemsOf]
    rw [a_mLc, ei]
    simp only [bind_ok]
    rw [if_pos (by rfl)]
    show (lcGo _ _ _ _ _ _ [.val (.scr ns), .un]).bind _ = _
    rw [lcGo_map (fun _ => .bl true) _ (by simp [rngD]; omega) (fun d hd => by
      obtain ⟨i, hi⟩ := List.mem_iff_getElem?.mp hd
      obtain ⟨hi', rfl⟩ := rngD_get hi
      obtain ⟨pot, ρ', e1, hp⟩ := pot_ok ns i (by omega)
      obtain ⟨pot', e2⟩ := right_ok hp (by decide)
      refine ⟨[.val (.scr ns), .val (.int (0 + (i : Nat)))], rfl, _, rfl, [.val (.scr ns), .val (.int (0 + (i : Nat)))], ?_, rfl⟩
      have e0 : (0 + (i : Int)) = (i : Int) := by omega
      rw [e0]
      have ep : mCallL Mi.m__law_pot (mCons (mVar 0) (mCons (mVar 1) (mNil))) [.val (.scr ns), .val (.int (i : Int))] = .ok (.lst pot, [.val (.scr ns), .val (.int (i : Int))]) := by
        unfold mCallL
        simp only [a_mCons, a_mVar0, mVar, List.getElem?_cons_succ, List.getElem?_cons_zero, bind_ok, a_mNil, List.map_cons, List.map_nil, e1, okR_ok, lft_some]
      unfold mCallML
      rw [ep]
      simp only [bind_ok, a_mNil, List.map_nil, e2, okR_ok, lft_some])]
    simp only [bind_ok, rngD, List.map_map]
    congr 3
    rw [show ((fun _ => D.bl true) ∘ fun i : Nat => D.int (0 + (i : Int))) = fun _ => D.bl true from rfl, List.map_const', List.length_range]
  have hlaw : Mi.m_law [.val (.scr ns)] = .ok (.bl true, [.val (.scr ns)]) := by
    refine fun_ret (ρ' := [.val (.scr ns), .un]) rfl ?_
    unfold Mi.M_law
    show mRet _ [.val (.scr ns), .un] = _
    rw [a_mRet, a_mCallN, a_mCons, a_mOfL, hlc]
    simp only [bind_ok, Ct.toD, a_mNil, all_true, lft_some]
  unfold ev
  rw [hlaw]
  rfl
end DF
namespace K43
open PySem PySem.Spec L2 Evl DF Mi
abbrev pw : Program := PySem.Challenge.pw_cornerdrifts_k43_whole_queues_handed_on
abbrev topS (i : Nat) : Stmt := pw.main.body.getD i (.Pass ⟨0, 0, 0, 0⟩)
abbrev s__law_frac_common : Stmt := topS 90
abbrev s__law_frac : Stmt := topS 91
abbrev s__law_take : Stmt := topS 88
abbrev s__law_parts : Stmt := topS 107
abbrev s__law_frac_times : Stmt := topS 94
abbrev s__law_part : Stmt := topS 108
abbrev s__law_frac_plus : Stmt := topS 92
abbrev s__law_frac_less : Stmt := topS 93
abbrev s__law_told : Stmt := topS 111
abbrev s_common : Stmt := topS 9
abbrev s_ratio : Stmt := topS 10
abbrev s_plus : Stmt := topS 11
abbrev s_total : Stmt := topS 16
abbrev s_is_whole : Stmt := topS 8
abbrev s_is_ratio : Stmt := topS 17
abbrev s_is_size : Stmt := topS 18
abbrev s_check_chances : Stmt := topS 66
abbrev s_is_rate : Stmt := topS 19
abbrev s_is_below : Stmt := topS 15
abbrev s_is_part : Stmt := topS 28
abbrev s_check_part : Stmt := topS 67
abbrev s_check_handed : Stmt := topS 71
abbrev s_lines_of : Stmt := topS 29
abbrev s_is_next_region : Stmt := topS 56
abbrev s_whole_in : Stmt := topS 20
abbrev s_ratio_in : Stmt := topS 21
abbrev s_step_in : Stmt := topS 53
abbrev s_least_of_region : Stmt := topS 51
abbrev s_is_integer : Stmt := topS 26
abbrev s_can_stand : Stmt := topS 52
abbrev s_has_step : Stmt := topS 54
abbrev s_does_step_stand : Stmt := topS 55
abbrev s_regions_in : Stmt := topS 57
abbrev s_ratio_word : Stmt := topS 22
abbrev s_region_rows : Stmt := topS 58
abbrev s_book_of : Stmt := topS 59
abbrev s_less : Stmt := topS 12
abbrev s_filled : Stmt := topS 68
abbrev s_made : Stmt := topS 69
abbrev s_coming_of : Stmt := topS 70
abbrev s_times : Stmt := topS 13
abbrev s_handed_on : Stmt := topS 72
abbrev s__law_frac_sum : Stmt := topS 97
abbrev s__law_book_drift : Stmt := topS 102
abbrev s__law_book_turns : Stmt := topS 103
abbrev s__law_book_sides : Stmt := topS 104
abbrev s__law_book_border : Stmt := topS 105
abbrev s__law_rows : Stmt := topS 106
abbrev s__law_handed : Stmt := topS 109
abbrev s__law_frac_over : Stmt := topS 95
abbrev s__law_loads : Stmt := topS 110
abbrev s__law_book_regions : Stmt := topS 100
abbrev s__law_frac_text : Stmt := topS 99
abbrev s__law_book_text : Stmt := topS 101
abbrev s_over : Stmt := topS 14
abbrev s_loads : Stmt := topS 73
abbrev s__law_frac_product : Stmt := topS 98
abbrev s__law_are_turns_right : Stmt := topS 112
abbrev s_is_string : Stmt := topS 27
abbrev s_check_region : Stmt := topS 61
abbrev s_region_steps : Stmt := topS 62
abbrev s_steps_of : Stmt := topS 63
abbrev s_drift : Stmt := topS 79
abbrev s_asked_sides : Stmt := topS 81
abbrev s_turns : Stmt := topS 80
abbrev s_border : Stmt := topS 82
abbrev s__law_frac_is_less : Stmt := topS 96
abbrev s_check_plain : Stmt := topS 83
abbrev s_asked : Stmt := topS 84
abbrev s_does_come_home : Stmt := topS 85
abbrev s__law_right : Stmt := topS 113
abbrev s__law_pot : Stmt := topS 87
abbrev s__law_cells : Stmt := topS 89
abbrev s_law : Stmt := topS 114
abbrev s_Book : Stmt := inClass (topS 60) 1
abbrev s_Book_text : Stmt := inClass (topS 60) 2
structure Dat (K : PySem.W.Frag) (cl : Nat → Addr) (mg : Str → Option Value) : Prop where
  d__law_frac_common : Def K mg "_law_frac_common" s__law_frac_common
  n_abs : mg "abs" = none
  n_int : mg "int" = none
  d__law_frac : Def K mg "_law_frac" s__law_frac
  d__law_take : Def K mg "_law_take" s__law_take
  d__law_parts : Def K mg "_law_parts" s__law_parts
  n_range : mg "range" = none
  n_sum : mg "sum" = none
  d__law_frac_times : Def K mg "_law_frac_times" s__law_frac_times
  d__law_part : Def K mg "_law_part" s__law_part
  d__law_frac_plus : Def K mg "_law_frac_plus" s__law_frac_plus
  d__law_frac_less : Def K mg "_law_frac_less" s__law_frac_less
  d__law_told : Def K mg "_law_told" s__law_told
  d_common : Def K mg "common" s_common
  d_ratio : Def K mg "ratio" s_ratio
  d_plus : Def K mg "plus" s_plus
  d_total : Def K mg "total" s_total
  d_is_whole : Def K mg "is_whole" s_is_whole
  n_isinstance : mg "isinstance" = none
  n_bool : mg "bool" = none
  d_is_ratio : Def K mg "is_ratio" s_is_ratio
  n_tuple : mg "tuple" = none
  n_len : mg "len" = none
  g_PAIR_ratios : ∃ t, mg "PAIR_ratios" = some (.int (2) t)
  n_all : mg "all" = none
  d_is_size : Def K mg "is_size" s_is_size
  d_check_chances : Def K mg "check_chances" s_check_chances
  g_ONE : ∃ q, mg "ONE" = some (.ref q) ∧ (∀ H, SqT K H q ([.int (1), .int (1)])) ∧ ∃ ob, K.lookup q = some ob ∧ ob.cls = .type "tuple" ∧ ob.dict = none
  d_is_rate : Def K mg "is_rate" s_is_rate
  d_is_below : Def K mg "is_below" s_is_below
  d_is_part : Def K mg "is_part" s_is_part
  d_check_part : Def K mg "check_part" s_check_part
  d_check_handed : Def K mg "check_handed" s_check_handed
  d_lines_of : Def K mg "lines_of" s_lines_of
  g_FEED : ∃ t, mg "FEED" = some (.str "\n" t)
  g_BLANK : ∃ t, mg "BLANK" = some (.str " " t)
  d_is_next_region : Def K mg "is_next_region" s_is_next_region
  g_FOUR : ∃ t, mg "FOUR" = some (.int (4) t)
  g_REGIONS : ∃ q, mg "REGIONS" = some (.ref q) ∧ (∀ H, SqT K H q ([.str "inside", .str "first", .str "second", .str "none"])) ∧ ∃ ob, K.lookup q = some ob ∧ ob.cls = .type "tuple" ∧ ob.dict = none
  d_whole_in : Def K mg "whole_in" s_whole_in
  g_MINUS : ∃ t, mg "MINUS" = some (.str "-" t)
  g_MOST_FIGURES : ∃ t, mg "MOST_FIGURES" = some (.int (4000) t)
  g_FIGURES : ∃ t, mg "FIGURES" = some (.str "0123456789" t)
  d_ratio_in : Def K mg "ratio_in" s_ratio_in
  g_OVER : ∃ t, mg "OVER" = some (.str "/" t)
  d_step_in : Def K mg "step_in" s_step_in
  g_STEP : ∃ t, mg "STEP" = some (.str "step" t)
  g_WORDS : ∃ q, mg "WORDS" = some (.ref q) ∧ (∀ H, SqT K H q ([.str "-1", .str "0", .str "1", .str "2", .str "3"])) ∧ ∃ ob, K.lookup q = some ob ∧ ob.cls = .type "tuple" ∧ ob.dict = none
  g_PAIR_books : ∃ t, mg "PAIR_books" = some (.int (2) t)
  d_least_of_region : Def K mg "least_of_region" s_least_of_region
  g_NONE : ∃ t, mg "NONE" = some (.str "none" t)
  g_FIRST : ∃ t, mg "FIRST" = some (.str "first" t)
  g_SECOND : ∃ t, mg "SECOND" = some (.str "second" t)
  d_is_integer : Def K mg "is_integer" s_is_integer
  d_can_stand : Def K mg "can_stand" s_can_stand
  g_MOST_GROWN : ∃ t, mg "MOST_GROWN" = some (.int (3) t)
  d_has_step : Def K mg "has_step" s_has_step
  g_MOST_STEPS : ∃ t, mg "MOST_STEPS" = some (.int (12) t)
  d_does_step_stand : Def K mg "does_step_stand" s_does_step_stand
  g_BOOK : ∃ t, mg "BOOK" = some (.str "book" t)
  n_enumerate : mg "enumerate" = none
  d_regions_in : Def K mg "regions_in" s_regions_in
  n_str : mg "str" = none
  m_Book : DefM K (cl 0) "__init__" "Book.__init__" s_Book
  sc_Book : SlX.SCls K (cl 0)
  sl_Book_own_regions : ∃ pa, SlX.Slot1 K (cl 0) "own_regions" pa 0
  sl_Book_own_text : ∃ pa, SlX.Slot1 K (cl 0) "own_text" pa 1
  d_ratio_word : Def K mg "ratio_word" s_ratio_word
  d_region_rows : Def K mg "region_rows" s_region_rows
  d_book_of : Def K mg "book_of" s_book_of
  n_zip : mg "zip" = none
  c_Book : mg "Book" = some (.ref (cl 0))
  d_less : Def K mg "less" s_less
  d_filled : Def K mg "filled" s_filled
  g_NOUGHT : ∃ q, mg "NOUGHT" = some (.ref q) ∧ (∀ H, SqT K H q ([.int (0), .int (1)])) ∧ ∃ ob, K.lookup q = some ob ∧ ob.cls = .type "tuple" ∧ ob.dict = none
  g_REST : ∃ q, mg "REST" = some (.ref q) ∧ (∀ H, SqT K H q ([.int (0), .int (0)])) ∧ ∃ ob, K.lookup q = some ob ∧ ob.cls = .type "tuple" ∧ ob.dict = none
  d_made : Def K mg "made" s_made
  d_coming_of : Def K mg "coming_of" s_coming_of
  d_times : Def K mg "times" s_times
  d_handed_on : Def K mg "handed_on" s_handed_on
  d__law_frac_sum : Def K mg "_law_frac_sum" s__law_frac_sum
  d__law_book_drift : Def K mg "_law_book_drift" s__law_book_drift
  d__law_book_turns : Def K mg "_law_book_turns" s__law_book_turns
  d__law_book_sides : Def K mg "_law_book_sides" s__law_book_sides
  d__law_book_border : Def K mg "_law_book_border" s__law_book_border
  d__law_rows : Def K mg "_law_rows" s__law_rows
  d__law_handed : Def K mg "_law_handed" s__law_handed
  d__law_frac_over : Def K mg "_law_frac_over" s__law_frac_over
  d__law_loads : Def K mg "_law_loads" s__law_loads
  d__law_book_regions : Def K mg "_law_book_regions" s__law_book_regions
  d__law_frac_text : Def K mg "_law_frac_text" s__law_frac_text
  d__law_book_text : Def K mg "_law_book_text" s__law_book_text
  d_over : Def K mg "over" s_over
  d_loads : Def K mg "loads" s_loads
  d__law_frac_product : Def K mg "_law_frac_product" s__law_frac_product
  d__law_are_turns_right : Def K mg "_law_are_turns_right" s__law_are_turns_right
  d_is_string : Def K mg "is_string" s_is_string
  d_check_region : Def K mg "check_region" s_check_region
  d_region_steps : Def K mg "region_steps" s_region_steps
  d_steps_of : Def K mg "steps_of" s_steps_of
  d_drift : Def K mg "drift" s_drift
  d_asked_sides : Def K mg "asked_sides" s_asked_sides
  g_INSIDE : ∃ t, mg "INSIDE" = some (.str "inside" t)
  d_turns : Def K mg "turns" s_turns
  d_border : Def K mg "border" s_border
  g_BORDER_Y : ∃ t, mg "BORDER_Y" = some (.str "y" t)
  g_BORDER_X : ∃ t, mg "BORDER_X" = some (.str "x" t)
  g_SECOND_TURN : ∃ t, mg "SECOND_TURN" = some (.str "second turn" t)
  g_FIRST_TURN : ∃ t, mg "FIRST_TURN" = some (.str "first turn" t)
  d__law_frac_is_less : Def K mg "_law_frac_is_less" s__law_frac_is_less
  d_check_plain : Def K mg "check_plain" s_check_plain
  d_asked : Def K mg "asked" s_asked
  d_does_come_home : Def K mg "does_come_home" s_does_come_home
  n_list : mg "list" = none
  n_dict : mg "dict" = none
  d__law_right : Def K mg "_law_right" s__law_right
  n_repr : mg "repr" = none
  d__law_pot : Def K mg "_law_pot" s__law_pot
  d__law_cells : Def K mg "_law_cells" s__law_cells
  n_min : mg "min" = none
  n_max : mg "max" = none
  d_law : Def K mg "law" s_law
  p_Book_text : PropFact K (cl 0) "text" "text" "Book.text" s_Book_text
section
variable {P : Program} {w : World} {K : PySem.W.Frag} {cl : Nat → Addr} {mg : Str → Option Value} {base : Heap}

/-! Book_text -/
theorem sc_Book_text : FnScope ["self"] ["self"] (defScope s_Book_text) := ⟨rfl, rfl, rfl, by decide +kernel, rfl, by decide +kernel, by decide +kernel⟩
theorem ok_Book_text (D : Dat K cl mg) : OkProp P w K cl mg base 1 (cl 0) "text" m_Book_text := by
  refine ok_prop D.p_Book_text sc_Book_text (fun _ _ _ _ _ _ us hl => match us, hl with | [_], _ => rfl) (fun g cdv A outer s H E hr => ?_)
  unfold M_Book_text
  exact (ds_one (ds_ret (de_slotX Z0.ok D.sc_Book D.sl_Book_own_text (dv 0))))

/-! _law_frac_common -/
theorem sc__law_frac_common : FnScope ["one", "other"] ["one", "other"] (defScope s__law_frac_common) := ⟨rfl, rfl, rfl, by decide +kernel, rfl, by decide +kernel, by decide +kernel⟩
theorem ok__law_frac_common (D : Dat K cl mg) : Ok P w K cl mg base 1 "_law_frac_common" ["one", "other"] m__law_frac_common := by
  refine ok_def D.d__law_frac_common sc__law_frac_common (fun _ _ _ _ _ _ us hl => match us, hl with | [_, _], _ => rfl) (fun f cdv A outer s H E hr => ?_)
  unfold M__law_frac_common
  exact (ds_cons Z0.ok (ds_par (i := 0) (j := 1) Z0.ok rfl rfl sc__law_frac_common.nd rfl rfl (by decide) rfl rfl (dr_val (de_callB Z0.ok o_abs rfl D.n_abs (by rfl) (da_cons Z0.ok (dv 0) da_nil))) (dr_val (de_callB Z0.ok o_abs rfl D.n_abs (by rfl) (da_cons Z0.ok (dv 1) da_nil))) (by rfl)) (ds_cons Z0.ok (ds_while Z0.ok (fuelAbs 1) PassesOwn.never (dt_cmp Z0.ok o_gt (dv 1) de_int (nomark _)) (ds_one (ds_par (i := 0) (j := 1) Z0.ok rfl rfl sc__law_frac_common.nd rfl rfl (by decide) rfl rfl (dr_val (dv 1)) (dr_val (de_bin Z0.ok o_mod (de_callTy Z0.ok o_int rfl D.n_int (by rfl) (da_cons Z0.ok (dv 0) da_nil)) (dv 1))) (by rfl)))) (ds_one (ds_ret (dv 0)))))

/-! _law_frac -/
theorem sc__law_frac : FnScope ["top", "bottom", "by"] ["top", "bottom"] (defScope s__law_frac) := ⟨rfl, rfl, rfl, by decide +kernel, rfl, by decide +kernel, by decide +kernel⟩
theorem ok__law_frac (D : Dat K cl mg) : Ok P w K cl mg base 2 "_law_frac" ["top", "bottom"] m__law_frac := by
  refine ok_def D.d__law_frac sc__law_frac (fun _ _ _ _ _ _ us hl => match us, hl with | [_, _], _ => rfl) (fun f cdv A outer s H E hr => ?_)
  unfold M__law_frac
  exact (ds_cons Z0.ok (ds_set (i := 2) sc__law_frac.nd rfl (by first | exact Or.inl rfl | exact Or.inr rfl) (dr_val (de_callX Z0.ok (ok__law_frac_common D) hr (by decide) (ALen.cons (ALen.cons ALen.nil)) (da_cons Z0.ok (dv 0) (da_cons Z0.ok (dv 1) da_nil))))) (ds_cons Z0.ok (ds_set (i := 2) sc__law_frac.nd rfl (by first | exact Or.inl rfl | exact Or.inr rfl) (dr_val (de_if Z0.ok (dt_cmp Z0.ok o_gt (dv 1) de_int (nomark _)) (dv 2) (de_neg Z0.ok (dv 2))))) (ds_one (ds_ret (de_tup Z0.ok (da_cons Z0.ok (de_bin Z0.ok o_fdiv (dv 0) (dv 2)) (da_cons Z0.ok (de_bin Z0.ok o_fdiv (dv 1) (dv 2)) da_nil)))))))

/-! _law_take -/
theorem sc__law_take : FnScope ["pot", "upto", "digit", "prime", "blend"] ["pot", "upto"] (defScope s__law_take) := ⟨rfl, rfl, rfl, by decide +kernel, rfl, by decide +kernel, by decide +kernel⟩
theorem ok__law_take (D : Dat K cl mg) : Ok P w K cl mg base 1 "_law_take" ["pot", "upto"] m__law_take := by
  refine ok_def D.d__law_take sc__law_take (fun _ _ _ _ _ _ us hl => match us, hl with | [_, _], _ => rfl) (fun f cdv A outer s H E hr => ?_)
  unfold M__law_take
  exact (ds_cons Z0.ok (ds_if Z0.ok (dt_cmp Z0.ok o_gt (de_ixO Z0.ok 0 (pv 0) de_int (fun _ _ => rfl)) de_int (nomark _)) (ds_cons Z0.ok (ds_set (i := 2) sc__law_take.nd rfl (by first | exact Or.inl rfl | exact Or.inr rfl) (dr_val (de_bin Z0.ok o_mod (de_callTy Z0.ok o_int rfl D.n_int (by rfl) (da_cons Z0.ok (de_ixO Z0.ok 0 (pv 0) de_int (fun _ _ => rfl)) da_nil)) (dv 1)))) (ds_cons Z0.ok (ds_setIx Z0.ok 0 (pv 0) (de_bin Z0.ok o_fdiv (de_ixO Z0.ok 0 (pv 0) de_int (fun _ _ => rfl)) (dv 1)) de_int) (ds_one (ds_ret (dv 2))))) ds_nil) (ds_cons Z0.ok (ds_setIx Z0.ok 0 (pv 0) (de_bin Z0.ok o_add (de_ixO Z0.ok 0 (pv 0) de_int (fun _ _ => rfl)) de_int) de_int) (ds_cons Z0.ok (ds_set (i := 3) sc__law_take.nd rfl (by first | exact Or.inl rfl | exact Or.inr rfl) (dr_val (de_ix Z0.ok (DF.Room.u1 hr) (de_ofL Z0.ok (dl_lst Z0.ok (da_cons Z0.ok de_int (da_cons Z0.ok de_int (da_cons Z0.ok de_int (da_cons Z0.ok de_int (da_cons Z0.ok de_int da_nil))))))) (de_bin Z0.ok o_mod (de_callTy Z0.ok o_int rfl D.n_int (by rfl) (da_cons Z0.ok (de_ixO Z0.ok 0 (pv 0) de_int (fun _ _ => rfl)) da_nil)) de_int) (fun _ _ => rfl) (fun _ _ => rfl)))) (ds_cons Z0.ok (ds_set (i := 4) sc__law_take.nd rfl (by first | exact Or.inl rfl | exact Or.inr rfl) (dr_val (de_bin Z0.ok o_mod (de_callTy Z0.ok o_int rfl D.n_int (by rfl) (da_cons Z0.ok (de_bin Z0.ok o_pow (de_callTy Z0.ok o_int rfl D.n_int (by rfl) (da_cons Z0.ok (de_bin Z0.ok o_add (de_bin Z0.ok o_add (de_ixO Z0.ok 0 (pv 0) de_int (fun _ _ => rfl)) (de_bin Z0.ok o_mul (de_bin Z0.ok o_mul de_int (de_ixO Z0.ok 0 (pv 0) de_int (fun _ _ => rfl))) (de_ixO Z0.ok 0 (pv 0) de_int (fun _ _ => rfl)))) de_int) da_nil)) de_int) da_nil)) (dv 3)))) (ds_cons Z0.ok (ds_set (i := 4) sc__law_take.nd rfl (by first | exact Or.inl rfl | exact Or.inr rfl) (dr_val (de_bin Z0.ok o_mod (de_callTy Z0.ok o_int rfl D.n_int (by rfl) (da_cons Z0.ok (de_bin Z0.ok o_mul (dv 4) (de_bin Z0.ok o_add (de_bin Z0.ok o_mod (de_callTy Z0.ok o_int rfl D.n_int (by rfl) (da_cons Z0.ok (dv 4) da_nil)) de_int) (de_bin Z0.ok o_mul de_int (de_ixO Z0.ok 0 (pv 0) de_int (fun _ _ => rfl))))) da_nil)) de_int))) (ds_one (ds_ret (de_bin Z0.ok o_mod (de_callTy Z0.ok o_int rfl D.n_int (by rfl) (da_cons Z0.ok (de_bin Z0.ok o_fdiv (dv 4) de_int) da_nil)) (dv 1)))))))))

/-! _law_parts -/
theorem sc__law_parts : FnScope ["pot", "many", "portions", "lap", "share"] ["pot", "many"] (defScope s__law_parts) := ⟨rfl, rfl, rfl, by decide +kernel, rfl, by decide +kernel, by decide +kernel⟩
theorem ok__law_parts (D : Dat K cl mg) : Ok P w K cl mg base 3 "_law_parts" ["pot", "many"] m__law_parts := by
  refine ok_def D.d__law_parts sc__law_parts (fun _ _ _ _ _ _ us hl => match us, hl with | [_, _], _ => rfl) (fun f cdv A outer s H E hr => ?_)
  unfold M__law_parts
  exact (ds_cons Z0.ok (ds_set (i := 2) sc__law_parts.nd rfl (by first | exact Or.inl rfl | exact Or.inr rfl) (dr_val (de_ofL Z0.ok (dl_lc (own := [("lap", 3)]) Z0.ok rfl sc__law_parts.nd (di_range1 Z0.ok rfl D.n_range (da_cons Z0.ok (dv 1) da_nil)) (blkOk_by (by show blkC ["pot", "many", "portions", "lap", "share"] (defScope s__law_parts) _ _ = true; decide +kernel)) (fun _ _ _ _ _ => (dg_name sc__law_parts.nd (i := 3) rfl (by first | exact Or.inl rfl | exact Or.inr rfl))) (fun _ _ _ _ _ => dts_nil) (fun _ _ _ _ _ => (de_bin Z0.ok o_add de_int (de_callMX 0 Z0.ok (ok__law_take D) hr (by decide) rfl (ALen.cons ALen.nil) (pv 0) (da_cons Z0.ok de_int da_nil)))))))) (ds_one (ds_ret (de_ofL Z0.ok (dl_lc (own := [("share", 4)]) Z0.ok rfl sc__law_parts.nd (di_val Z0.ok (dv 2)) (blkOk_by (by show blkC ["pot", "many", "portions", "lap", "share"] (defScope s__law_parts) _ _ = true; decide +kernel)) (fun _ _ _ _ _ => (dg_name sc__law_parts.nd (i := 4) rfl (by first | exact Or.inl rfl | exact Or.inr rfl))) (fun _ _ _ _ _ => dts_nil) (fun _ _ _ _ _ => (de_callX Z0.ok (ok__law_frac D) hr (by decide) (ALen.cons (ALen.cons ALen.nil)) (da_cons Z0.ok (dv 4) (da_cons Z0.ok (de_callB Z0.ok (o_sum rfl) rfl D.n_sum (by rfl) (da_cons Z0.ok (dv 2) da_nil)) da_nil)))))))))

/-! _law_frac_times -/
theorem sc__law_frac_times : FnScope ["one", "other"] ["one", "other"] (defScope s__law_frac_times) := ⟨rfl, rfl, rfl, by decide +kernel, rfl, by decide +kernel, by decide +kernel⟩
theorem ok__law_frac_times (D : Dat K cl mg) : Ok P w K cl mg base 3 "_law_frac_times" ["one", "other"] m__law_frac_times := by
  refine ok_def D.d__law_frac_times sc__law_frac_times (fun _ _ _ _ _ _ us hl => match us, hl with | [_, _], _ => rfl) (fun f cdv A outer s H E hr => ?_)
  unfold M__law_frac_times
  exact (ds_one (ds_ret (de_callX Z0.ok (ok__law_frac D) hr (by decide) (ALen.cons (ALen.cons ALen.nil)) (da_cons Z0.ok (de_bin Z0.ok o_mul (de_ix Z0.ok (DF.Room.u1 hr) (dv 0) de_int (fun _ _ => rfl) (fun _ _ => rfl)) (de_ix Z0.ok (DF.Room.u1 hr) (dv 1) de_int (fun _ _ => rfl) (fun _ _ => rfl))) (da_cons Z0.ok (de_bin Z0.ok o_mul (de_ix Z0.ok (DF.Room.u1 hr) (dv 0) de_int (fun _ _ => rfl) (fun _ _ => rfl)) (de_ix Z0.ok (DF.Room.u1 hr) (dv 1) de_int (fun _ _ => rfl) (fun _ _ => rfl))) da_nil)))))

/-! _law_part -/
theorem sc__law_part : FnScope ["pot", "bottom"] ["pot"] (defScope s__law_part) := ⟨rfl, rfl, rfl, by decide +kernel, rfl, by decide +kernel, by decide +kernel⟩
theorem ok__law_part (D : Dat K cl mg) : Ok P w K cl mg base 3 "_law_part" ["pot"] m__law_part := by
  refine ok_def D.d__law_part sc__law_part (fun _ _ _ _ _ _ us hl => match us, hl with | [_], _ => rfl) (fun f cdv A outer s H E hr => ?_)
  unfold M__law_part
  exact (ds_cons Z0.ok (ds_set (i := 1) sc__law_part.nd rfl (by first | exact Or.inl rfl | exact Or.inr rfl) (dr_val (de_bin Z0.ok o_add de_int (de_callMX 0 Z0.ok (ok__law_take D) hr (by decide) rfl (ALen.cons ALen.nil) (pv 0) (da_cons Z0.ok de_int da_nil))))) (ds_one (ds_ret (de_callX Z0.ok (ok__law_frac D) hr (by decide) (ALen.cons (ALen.cons ALen.nil)) (da_cons Z0.ok (de_callMX 0 Z0.ok (ok__law_take D) hr (by decide) rfl (ALen.cons ALen.nil) (pv 0) (da_cons Z0.ok (de_bin Z0.ok o_add (dv 1) de_int) da_nil)) (da_cons Z0.ok (dv 1) da_nil))))))

/-! _law_frac_plus -/
theorem sc__law_frac_plus : FnScope ["one", "other"] ["one", "other"] (defScope s__law_frac_plus) := ⟨rfl, rfl, rfl, by decide +kernel, rfl, by decide +kernel, by decide +kernel⟩
theorem ok__law_frac_plus (D : Dat K cl mg) : Ok P w K cl mg base 3 "_law_frac_plus" ["one", "other"] m__law_frac_plus := by
  refine ok_def D.d__law_frac_plus sc__law_frac_plus (fun _ _ _ _ _ _ us hl => match us, hl with | [_, _], _ => rfl) (fun f cdv A outer s H E hr => ?_)
  unfold M__law_frac_plus
  exact (ds_one (ds_ret (de_callX Z0.ok (ok__law_frac D) hr (by decide) (ALen.cons (ALen.cons ALen.nil)) (da_cons Z0.ok (de_bin Z0.ok o_add (de_bin Z0.ok o_mul (de_ix Z0.ok (DF.Room.u1 hr) (dv 0) de_int (fun _ _ => rfl) (fun _ _ => rfl)) (de_ix Z0.ok (DF.Room.u1 hr) (dv 1) de_int (fun _ _ => rfl) (fun _ _ => rfl))) (de_bin Z0.ok o_mul (de_ix Z0.ok (DF.Room.u1 hr) (dv 1) de_int (fun _ _ => rfl) (fun _ _ => rfl)) (de_ix Z0.ok (DF.Room.u1 hr) (dv 0) de_int (fun _ _ => rfl) (fun _ _ => rfl)))) (da_cons Z0.ok (de_bin Z0.ok o_mul (de_ix Z0.ok (DF.Room.u1 hr) (dv 0) de_int (fun _ _ => rfl) (fun _ _ => rfl)) (de_ix Z0.ok (DF.Room.u1 hr) (dv 1) de_int (fun _ _ => rfl) (fun _ _ => rfl))) da_nil)))))

/-! _law_frac_less -/
theorem sc__law_frac_less : FnScope ["one", "other"] ["one", "other"] (defScope s__law_frac_less) := ⟨rfl, rfl, rfl, by decide +kernel, rfl, by decide +kernel, by decide +kernel⟩
theorem ok__law_frac_less (D : Dat K cl mg) : Ok P w K cl mg base 3 "_law_frac_less" ["one", "other"] m__law_frac_less := by
  refine ok_def D.d__law_frac_less sc__law_frac_less (fun _ _ _ _ _ _ us hl => match us, hl with | [_, _], _ => rfl) (fun f cdv A outer s H E hr => ?_)
  unfold M__law_frac_less
  exact (ds_one (ds_ret (de_callX Z0.ok (ok__law_frac D) hr (by decide) (ALen.cons (ALen.cons ALen.nil)) (da_cons Z0.ok (de_bin Z0.ok o_sub (de_bin Z0.ok o_mul (de_ix Z0.ok (DF.Room.u1 hr) (dv 0) de_int (fun _ _ => rfl) (fun _ _ => rfl)) (de_ix Z0.ok (DF.Room.u1 hr) (dv 1) de_int (fun _ _ => rfl) (fun _ _ => rfl))) (de_bin Z0.ok o_mul (de_ix Z0.ok (DF.Room.u1 hr) (dv 1) de_int (fun _ _ => rfl) (fun _ _ => rfl)) (de_ix Z0.ok (DF.Room.u1 hr) (dv 0) de_int (fun _ _ => rfl) (fun _ _ => rfl)))) (da_cons Z0.ok (de_bin Z0.ok o_mul (de_ix Z0.ok (DF.Room.u1 hr) (dv 0) de_int (fun _ _ => rfl) (fun _ _ => rfl)) (de_ix Z0.ok (DF.Room.u1 hr) (dv 1) de_int (fun _ _ => rfl) (fun _ _ => rfl))) da_nil)))))

/-! _law_told -/
theorem sc__law_told : FnScope ["pot", "a", "b", "m", "k", "rest", "p", "q", "one"] ["pot"] (defScope s__law_told) := ⟨rfl, rfl, rfl, by decide +kernel, rfl, by decide +kernel, by decide +kernel⟩
theorem ok__law_told (D : Dat K cl mg) : Ok P w K cl mg base 4 "_law_told" ["pot"] m__law_told := by
  refine ok_def D.d__law_told sc__law_told (fun _ _ _ _ _ _ us hl => match us, hl with | [_], _ => rfl) (fun f cdv A outer s H E hr => ?_)
  unfold M__law_told
  exact (ds_cons Z0.ok (ds_asg Z0.ok (de_callMX 0 Z0.ok (ok__law_parts D) hr (by decide) rfl (ALen.cons ALen.nil) (pv 0) (da_cons Z0.ok de_int da_nil)) (dg_tup rfl (dgs_cons Z0.ok (dg_name sc__law_told.nd (i := 1) rfl (by first | exact Or.inl rfl | exact Or.inr rfl)) (dgs_cons Z0.ok (dg_name sc__law_told.nd (i := 2) rfl (by first | exact Or.inl rfl | exact Or.inr rfl)) (dgs_cons Z0.ok (dg_name sc__law_told.nd (i := 3) rfl (by first | exact Or.inl rfl | exact Or.inr rfl)) (dgs_cons Z0.ok (dg_name sc__law_told.nd (i := 4) rfl (by first | exact Or.inl rfl | exact Or.inr rfl)) dgs_nil)))))) (ds_cons Z0.ok (ds_if Z0.ok (dt_cmp Z0.ok (o_eq (DF.Room.u64 hr)) (de_callMX 0 Z0.ok (ok__law_take D) hr (by decide) rfl (ALen.cons ALen.nil) (pv 0) (da_cons Z0.ok de_int da_nil)) de_int (nomark _)) (ds_cons Z0.ok (ds_asg Z0.ok (de_bin Z0.ok o_add (de_ofL Z0.ok (dl_lc (own := [("one", 8)]) Z0.ok rfl sc__law_told.nd (di_val Z0.ok (de_tup Z0.ok (da_cons Z0.ok (dv 1) (da_cons Z0.ok (dv 2) da_nil)))) (blkOk_by (by show blkC ["pot", "a", "b", "m", "k", "rest", "p", "q", "one"] (defScope s__law_told) _ _ = true; decide +kernel)) (fun _ _ _ _ _ => (dg_name sc__law_told.nd (i := 8) rfl (by first | exact Or.inl rfl | exact Or.inr rfl))) (fun _ _ _ _ _ => dts_nil) (fun _ _ _ _ _ => (de_callX Z0.ok (ok__law_frac_times D) hr (by decide) (ALen.cons (ALen.cons ALen.nil)) (da_cons Z0.ok (dv 8) (da_cons Z0.ok (de_tup Z0.ok (da_cons Z0.ok de_int (da_cons Z0.ok de_int da_nil))) da_nil)))))) (de_ofL Z0.ok (dl_lst Z0.ok (da_cons Z0.ok (dv 3) (da_cons Z0.ok (dv 4) da_nil))))) (dg_tup rfl (dgs_cons Z0.ok (dg_name sc__law_told.nd (i := 1) rfl (by first | exact Or.inl rfl | exact Or.inr rfl)) (dgs_cons Z0.ok (dg_name sc__law_told.nd (i := 2) rfl (by first | exact Or.inl rfl | exact Or.inr rfl)) (dgs_cons Z0.ok (dg_name sc__law_told.nd (i := 3) rfl (by first | exact Or.inl rfl | exact Or.inr rfl)) (dgs_cons Z0.ok (dg_name sc__law_told.nd (i := 4) rfl (by first | exact Or.inl rfl | exact Or.inr rfl)) dgs_nil)))))) (ds_cons Z0.ok (ds_set (i := 5) sc__law_told.nd rfl (by first | exact Or.inl rfl | exact Or.inr rfl) (dr_val (de_callX Z0.ok (ok__law_frac_times D) hr (by decide) (ALen.cons (ALen.cons ALen.nil)) (da_cons Z0.ok (de_tup Z0.ok (da_cons Z0.ok de_int (da_cons Z0.ok de_int da_nil))) (da_cons Z0.ok (de_callX Z0.ok (ok__law_frac_plus D) hr (by decide) (ALen.cons (ALen.cons ALen.nil)) (da_cons Z0.ok (dv 1) (da_cons Z0.ok (dv 2) da_nil))) da_nil))))) (ds_one (ds_par (i := 3) (j := 4) Z0.ok rfl rfl sc__law_told.nd rfl rfl (by decide) rfl rfl (dr_val (de_callX Z0.ok (ok__law_frac_plus D) hr (by decide) (ALen.cons (ALen.cons ALen.nil)) (da_cons Z0.ok (dv 3) (da_cons Z0.ok (dv 5) da_nil)))) (dr_val (de_callX Z0.ok (ok__law_frac_plus D) hr (by decide) (ALen.cons (ALen.cons ALen.nil)) (da_cons Z0.ok (dv 4) (da_cons Z0.ok (de_callX Z0.ok (ok__law_frac_less D) hr (by decide) (ALen.cons (ALen.cons ALen.nil)) (da_cons Z0.ok (de_callX Z0.ok (ok__law_frac_plus D) hr (by decide) (ALen.cons (ALen.cons ALen.nil)) (da_cons Z0.ok (dv 1) (da_cons Z0.ok (dv 2) da_nil))) (da_cons Z0.ok (dv 5) da_nil))) da_nil)))) (by rfl))))) ds_nil) (ds_cons Z0.ok (ds_par (i := 6) (j := 7) Z0.ok rfl rfl sc__law_told.nd rfl rfl (by decide) rfl rfl (dr_val (de_callMX 0 Z0.ok (ok__law_part D) hr (by decide) rfl ALen.nil (pv 0) da_nil)) (dr_val (de_callMX 0 Z0.ok (ok__law_part D) hr (by decide) rfl ALen.nil (pv 0) da_nil)) (by rfl)) (ds_one (ds_ret (de_tup Z0.ok (da_cons Z0.ok (dv 1) (da_cons Z0.ok (dv 2) (da_cons Z0.ok (dv 3) (da_cons Z0.ok (dv 4) (da_cons Z0.ok (dv 6) (da_cons Z0.ok (de_if Z0.ok (dt_cmp Z0.ok (o_eq (DF.Room.u64 hr)) (de_tup Z0.ok (da_cons Z0.ok (dv 6) (da_cons Z0.ok (dv 7) da_nil))) (de_tup Z0.ok (da_cons Z0.ok (de_tup Z0.ok (da_cons Z0.ok de_int (da_cons Z0.ok de_int da_nil))) (da_cons Z0.ok (de_tup Z0.ok (da_cons Z0.ok de_int (da_cons Z0.ok de_int da_nil))) da_nil))) (nomark _)) (de_tup Z0.ok (da_cons Z0.ok de_int (da_cons Z0.ok de_int da_nil))) (dv 7)) da_nil))))))))))))

/-! common -/
theorem sc_common : FnScope ["one", "other"] ["one", "other"] (defScope s_common) := ⟨rfl, rfl, rfl, by decide +kernel, rfl, by decide +kernel, by decide +kernel⟩
theorem ok_common (D : Dat K cl mg) : Ok P w K cl mg base 1 "common" ["one", "other"] m_common := by
  refine ok_def D.d_common sc_common (fun _ _ _ _ _ _ us hl => match us, hl with | [_, _], _ => rfl) (fun f cdv A outer s H E hr => ?_)
  unfold M_common
  exact (ds_cons Z0.ok (ds_par (i := 0) (j := 1) Z0.ok rfl rfl sc_common.nd rfl rfl (by decide) rfl rfl (dr_val (de_callB Z0.ok o_abs rfl D.n_abs (by rfl) (da_cons Z0.ok (dv 0) da_nil))) (dr_val (de_callB Z0.ok o_abs rfl D.n_abs (by rfl) (da_cons Z0.ok (dv 1) da_nil))) (by rfl)) (ds_cons Z0.ok (ds_while Z0.ok (fuelAbs 1) PassesOwn.never (dt_cmp Z0.ok o_gt (dv 1) de_int (nomark _)) (ds_one (ds_par (i := 0) (j := 1) Z0.ok rfl rfl sc_common.nd rfl rfl (by decide) rfl rfl (dr_val (dv 1)) (dr_val (de_bin Z0.ok o_mod (dv 0) (dv 1))) (by rfl)))) (ds_one (ds_ret (dv 0)))))

/-! ratio -/
theorem sc_ratio : FnScope ["top", "bottom", "by"] ["top", "bottom"] (defScope s_ratio) := ⟨rfl, rfl, rfl, by decide +kernel, rfl, by decide +kernel, by decide +kernel⟩
theorem ok_ratio (D : Dat K cl mg) : Ok P w K cl mg base 2 "ratio" ["top", "bottom"] m_ratio := by
  refine ok_def D.d_ratio sc_ratio (fun _ _ _ _ _ _ us hl => match us, hl with | [_, _], _ => rfl) (fun f cdv A outer s H E hr => ?_)
  unfold M_ratio
  exact (ds_cons Z0.ok (ds_set (i := 2) sc_ratio.nd rfl (by first | exact Or.inl rfl | exact Or.inr rfl) (dr_val (de_callX Z0.ok (ok_common D) hr (by decide) (ALen.cons (ALen.cons ALen.nil)) (da_cons Z0.ok (dv 0) (da_cons Z0.ok (dv 1) da_nil))))) (ds_cons Z0.ok (ds_set (i := 2) sc_ratio.nd rfl (by first | exact Or.inl rfl | exact Or.inr rfl) (dr_val (de_if Z0.ok (dt_cmp Z0.ok o_gt (dv 1) de_int (nomark _)) (dv 2) (de_bin Z0.ok o_sub de_int (dv 2))))) (ds_one (ds_ret (de_tup Z0.ok (da_cons Z0.ok (de_bin Z0.ok o_fdiv (dv 0) (dv 2)) (da_cons Z0.ok (de_bin Z0.ok o_fdiv (dv 1) (dv 2)) da_nil)))))))

/-! plus -/
theorem sc_plus : FnScope ["one", "other"] ["one", "other"] (defScope s_plus) := ⟨rfl, rfl, rfl, by decide +kernel, rfl, by decide +kernel, by decide +kernel⟩
theorem ok_plus (D : Dat K cl mg) : Ok P w K cl mg base 3 "plus" ["one", "other"] m_plus := by
  refine ok_def D.d_plus sc_plus (fun _ _ _ _ _ _ us hl => match us, hl with | [_, _], _ => rfl) (fun f cdv A outer s H E hr => ?_)
  unfold M_plus
  exact (ds_one (ds_ret (de_callX Z0.ok (ok_ratio D) hr (by decide) (ALen.cons (ALen.cons ALen.nil)) (da_cons Z0.ok (de_bin Z0.ok o_add (de_bin Z0.ok o_mul (de_ix Z0.ok (DF.Room.u1 hr) (dv 0) de_int (fun _ _ => rfl) (fun _ _ => rfl)) (de_ix Z0.ok (DF.Room.u1 hr) (dv 1) de_int (fun _ _ => rfl) (fun _ _ => rfl))) (de_bin Z0.ok o_mul (de_ix Z0.ok (DF.Room.u1 hr) (dv 1) de_int (fun _ _ => rfl) (fun _ _ => rfl)) (de_ix Z0.ok (DF.Room.u1 hr) (dv 0) de_int (fun _ _ => rfl) (fun _ _ => rfl)))) (da_cons Z0.ok (de_bin Z0.ok o_mul (de_ix Z0.ok (DF.Room.u1 hr) (dv 0) de_int (fun _ _ => rfl) (fun _ _ => rfl)) (de_ix Z0.ok (DF.Room.u1 hr) (dv 1) de_int (fun _ _ => rfl) (fun _ _ => rfl))) da_nil)))))

/-! total -/
theorem sc_total : FnScope ["ratios", "found", "one"] ["ratios"] (defScope s_total) := ⟨rfl, rfl, rfl, by decide +kernel, rfl, by decide +kernel, by decide +kernel⟩
theorem ok_total (D : Dat K cl mg) : Ok P w K cl mg base 4 "total" ["ratios"] m_total := by
  refine ok_def D.d_total sc_total (fun _ _ _ _ _ _ us hl => match us, hl with | [_], _ => rfl) (fun f cdv A outer s H E hr => ?_)
  unfold M_total
  exact (ds_cons Z0.ok (ds_set (i := 1) sc_total.nd rfl (by first | exact Or.inl rfl | exact Or.inr rfl) (dr_val (de_tup Z0.ok (da_cons Z0.ok de_int (da_cons Z0.ok de_int da_nil))))) (ds_cons Z0.ok (ds_for Z0.ok PassesOwn.never rfl (di_val Z0.ok (dv 0)) (dg_name sc_total.nd (i := 2) rfl (by first | exact Or.inl rfl | exact Or.inr rfl)) (ds_one (ds_set (i := 1) sc_total.nd rfl (by first | exact Or.inl rfl | exact Or.inr rfl) (dr_val (de_callX Z0.ok (ok_plus D) hr (by decide) (ALen.cons (ALen.cons ALen.nil)) (da_cons Z0.ok (dv 1) (da_cons Z0.ok (dv 2) da_nil))))))) (ds_one (ds_ret (dv 1)))))

/-! is_whole -/
theorem sc_is_whole : FnScope ["value"] ["value"] (defScope s_is_whole) := ⟨rfl, rfl, rfl, by decide +kernel, rfl, by decide +kernel, by decide +kernel⟩
theorem ok_is_whole (D : Dat K cl mg) : Ok P w K cl mg base 1 "is_whole" ["value"] m_is_whole := by
  refine ok_def D.d_is_whole sc_is_whole (fun _ _ _ _ _ _ us hl => match us, hl with | [_], _ => rfl) (fun f cdv A outer s H E hr => ?_)
  unfold M_is_whole
  exact (ds_one (ds_ret (de_and Z0.ok (de_callB Z0.ok o_isi rfl D.n_isinstance (by rfl) (da_cons Z0.ok (dv 0) (da_cons Z0.ok (de_ty (n := "int") rfl D.n_int (by rfl)) da_nil))) (de_one (de_not Z0.ok (de_callB Z0.ok o_isi rfl D.n_isinstance (by rfl) (da_cons Z0.ok (dv 0) (da_cons Z0.ok (de_ty (n := "bool") rfl D.n_bool (by rfl)) da_nil))))))))

/-! is_ratio -/
theorem sc_is_ratio : FnScope ["value", "one"] ["value"] (defScope s_is_ratio) := ⟨rfl, rfl, rfl, by decide +kernel, rfl, by decide +kernel, by decide +kernel⟩
theorem ok_is_ratio (D : Dat K cl mg) : Ok P w K cl mg base 2 "is_ratio" ["value"] m_is_ratio := by
  refine ok_def D.d_is_ratio sc_is_ratio (fun _ _ _ _ _ _ us hl => match us, hl with | [_], _ => rfl) (fun f cdv A outer s H E hr => ?_)
  unfold M_is_ratio
  exact (ds_cons Z0.ok (ds_if Z0.ok (dt_w (dw_or Z0.ok (dt_not Z0.ok (dt_val Z0.ok (de_callB Z0.ok o_isi rfl D.n_isinstance (by rfl) (da_cons Z0.ok (dv 0) (da_cons Z0.ok (de_ty (n := "tuple") rfl D.n_tuple (by rfl)) da_nil))))) (dw_or Z0.ok (dt_cmp Z0.ok (o_ne (DF.Room.u64 hr)) (de_callB Z0.ok o_len rfl D.n_len (by rfl) (da_cons Z0.ok (dv 0) da_nil)) (de_gint D.g_PAIR_ratios) (nomark _)) (dw_or1 (dt_not Z0.ok (dt_val Z0.ok (de_callB Z0.ok (o_all rfl) rfl D.n_all (by rfl) (da_cons Z0.ok (de_ofL Z0.ok (dl_lc (own := [("one", 1)]) Z0.ok rfl sc_is_ratio.nd (di_val Z0.ok (dv 0)) (blkOk_by (by show blkC ["value", "one"] (defScope s_is_ratio) _ _ = true; decide +kernel)) (fun _ _ _ _ _ => (dg_name sc_is_ratio.nd (i := 1) rfl (by first | exact Or.inl rfl | exact Or.inr rfl))) (fun _ _ _ _ _ => dts_nil) (fun _ _ _ _ _ => (de_callX Z0.ok (ok_is_whole D) hr (by decide) (ALen.cons ALen.nil) (da_cons Z0.ok (dv 1) da_nil))))) da_nil)))))))) (ds_one (ds_ret de_bl)) ds_nil) (ds_one (ds_ret (de_and Z0.ok (de_cmp Z0.ok o_ge (de_ix Z0.ok (DF.Room.u1 hr) (dv 0) de_int (fun _ _ => rfl) (fun _ _ => rfl)) de_int (nomark _)) (de_one (de_cmp Z0.ok (o_eq (DF.Room.u64 hr)) (de_callX Z0.ok (ok_common D) hr (by decide) (ALen.cons (ALen.cons ALen.nil)) (da_cons Z0.ok (de_ix Z0.ok (DF.Room.u1 hr) (dv 0) de_int (fun _ _ => rfl) (fun _ _ => rfl)) (da_cons Z0.ok (de_ix Z0.ok (DF.Room.u1 hr) (dv 0) de_int (fun _ _ => rfl) (fun _ _ => rfl)) da_nil))) de_int (nomark _)))))))

/-! is_size -/
theorem sc_is_size : FnScope ["value"] ["value"] (defScope s_is_size) := ⟨rfl, rfl, rfl, by decide +kernel, rfl, by decide +kernel, by decide +kernel⟩
theorem ok_is_size (D : Dat K cl mg) : Ok P w K cl mg base 3 "is_size" ["value"] m_is_size := by
  refine ok_def D.d_is_size sc_is_size (fun _ _ _ _ _ _ us hl => match us, hl with | [_], _ => rfl) (fun f cdv A outer s H E hr => ?_)
  unfold M_is_size
  exact (ds_one (ds_ret (de_and Z0.ok (de_callX Z0.ok (ok_is_ratio D) hr (by decide) (ALen.cons ALen.nil) (da_cons Z0.ok (dv 0) da_nil)) (de_one (de_cmp Z0.ok o_gt (de_ix Z0.ok (DF.Room.u1 hr) (dv 0) de_int (fun _ _ => rfl) (fun _ _ => rfl)) de_int (nomark _))))))

/-! check_chances -/
theorem sc_check_chances : FnScope ["some", "one"] ["some"] (defScope s_check_chances) := ⟨rfl, rfl, rfl, by decide +kernel, rfl, by decide +kernel, by decide +kernel⟩
theorem ok_check_chances (D : Dat K cl mg) : Ok P w K cl mg base 5 "check_chances" ["some"] m_check_chances := by
  refine ok_def D.d_check_chances sc_check_chances (fun _ _ _ _ _ _ us hl => match us, hl with | [_], _ => rfl) (fun f cdv A outer s H E hr => ?_)
  unfold M_check_chances
  exact (ds_one (ds_if Z0.ok (dt_w (dw_or Z0.ok (dt_not Z0.ok (dt_val Z0.ok (de_callB Z0.ok (o_all rfl) rfl D.n_all (by rfl) (da_cons Z0.ok (de_ofL Z0.ok (dl_lc (own := [("one", 1)]) Z0.ok rfl sc_check_chances.nd (di_val Z0.ok (dv 0)) (blkOk_by (by show blkC ["some", "one"] (defScope s_check_chances) _ _ = true; decide +kernel)) (fun _ _ _ _ _ => (dg_name sc_check_chances.nd (i := 1) rfl (by first | exact Or.inl rfl | exact Or.inr rfl))) (fun _ _ _ _ _ => dts_nil) (fun _ _ _ _ _ => (de_callX Z0.ok (ok_is_size D) hr (by decide) (ALen.cons ALen.nil) (da_cons Z0.ok (dv 1) da_nil))))) da_nil)))) (dw_or1 (dt_cmp Z0.ok (o_ne (DF.Room.u64 hr)) (de_callX Z0.ok (ok_total D) hr (by decide) (ALen.cons ALen.nil) (da_cons Z0.ok (dv 0) da_nil)) (de_gtup ([.int (1), .int (1)]) (by rfl) D.g_ONE) (nomark _))))) (ds_one ds_never) ds_nil))

/-! is_rate -/
theorem sc_is_rate : FnScope ["value"] ["value"] (defScope s_is_rate) := ⟨rfl, rfl, rfl, by decide +kernel, rfl, by decide +kernel, by decide +kernel⟩
theorem ok_is_rate (D : Dat K cl mg) : Ok P w K cl mg base 3 "is_rate" ["value"] m_is_rate := by
  refine ok_def D.d_is_rate sc_is_rate (fun _ _ _ _ _ _ us hl => match us, hl with | [_], _ => rfl) (fun f cdv A outer s H E hr => ?_)
  unfold M_is_rate
  exact (ds_one (ds_ret (de_and Z0.ok (de_callX Z0.ok (ok_is_ratio D) hr (by decide) (ALen.cons ALen.nil) (da_cons Z0.ok (dv 0) da_nil)) (de_one (de_cmp Z0.ok o_ge (de_ix Z0.ok (DF.Room.u1 hr) (dv 0) de_int (fun _ _ => rfl) (fun _ _ => rfl)) de_int (nomark _))))))

/-! is_below -/
theorem sc_is_below : FnScope ["one", "other"] ["one", "other"] (defScope s_is_below) := ⟨rfl, rfl, rfl, by decide +kernel, rfl, by decide +kernel, by decide +kernel⟩
theorem ok_is_below (D : Dat K cl mg) : Ok P w K cl mg base 1 "is_below" ["one", "other"] m_is_below := by
  refine ok_def D.d_is_below sc_is_below (fun _ _ _ _ _ _ us hl => match us, hl with | [_, _], _ => rfl) (fun f cdv A outer s H E hr => ?_)
  unfold M_is_below
  exact (ds_one (ds_ret (de_cmp Z0.ok o_lt (de_bin Z0.ok o_mul (de_ix Z0.ok (DF.Room.u1 hr) (dv 0) de_int (fun _ _ => rfl) (fun _ _ => rfl)) (de_ix Z0.ok (DF.Room.u1 hr) (dv 1) de_int (fun _ _ => rfl) (fun _ _ => rfl))) (de_bin Z0.ok o_mul (de_ix Z0.ok (DF.Room.u1 hr) (dv 1) de_int (fun _ _ => rfl) (fun _ _ => rfl)) (de_ix Z0.ok (DF.Room.u1 hr) (dv 0) de_int (fun _ _ => rfl) (fun _ _ => rfl))) (nomark _))))

/-! is_part -/
theorem sc_is_part : FnScope ["value"] ["value"] (defScope s_is_part) := ⟨rfl, rfl, rfl, by decide +kernel, rfl, by decide +kernel, by decide +kernel⟩
theorem ok_is_part (D : Dat K cl mg) : Ok P w K cl mg base 4 "is_part" ["value"] m_is_part := by
  refine ok_def D.d_is_part sc_is_part (fun _ _ _ _ _ _ us hl => match us, hl with | [_], _ => rfl) (fun f cdv A outer s H E hr => ?_)
  unfold M_is_part
  exact (ds_one (ds_ret (de_and Z0.ok (de_callX Z0.ok (ok_is_rate D) hr (by decide) (ALen.cons ALen.nil) (da_cons Z0.ok (dv 0) da_nil)) (de_one (de_not Z0.ok (de_callX Z0.ok (ok_is_below D) hr (by decide) (ALen.cons (ALen.cons ALen.nil)) (da_cons Z0.ok (de_gtup ([.int (1), .int (1)]) (by rfl) D.g_ONE) (da_cons Z0.ok (dv 0) da_nil))))))))

/-! check_part -/
theorem sc_check_part : FnScope ["value"] ["value"] (defScope s_check_part) := ⟨rfl, rfl, rfl, by decide +kernel, rfl, by decide +kernel, by decide +kernel⟩
theorem ok_check_part (D : Dat K cl mg) : Ok P w K cl mg base 5 "check_part" ["value"] m_check_part := by
  refine ok_def D.d_check_part sc_check_part (fun _ _ _ _ _ _ us hl => match us, hl with | [_], _ => rfl) (fun f cdv A outer s H E hr => ?_)
  unfold M_check_part
  exact (ds_one (ds_if Z0.ok (dt_not Z0.ok (dt_val Z0.ok (de_callX Z0.ok (ok_is_part D) hr (by decide) (ALen.cons ALen.nil) (da_cons Z0.ok (dv 0) da_nil)))) (ds_one ds_never) ds_nil))

/-! check_handed -/
theorem sc_check_handed : FnScope ["a", "b", "m", "k", "p", "q"] ["a", "b", "m", "k", "p", "q"] (defScope s_check_handed) := ⟨rfl, rfl, rfl, by decide +kernel, rfl, by decide +kernel, by decide +kernel⟩
theorem ok_check_handed (D : Dat K cl mg) : Ok P w K cl mg base 6 "check_handed" ["a", "b", "m", "k", "p", "q"] m_check_handed := by
  refine ok_def D.d_check_handed sc_check_handed (fun _ _ _ _ _ _ us hl => match us, hl with | [_, _, _, _, _, _], _ => rfl) (fun f cdv A outer s H E hr => ?_)
  unfold M_check_handed
  exact (ds_cons Z0.ok (ds_expr (de_callX Z0.ok (ok_check_chances D) hr (by decide) (ALen.cons ALen.nil) (da_cons Z0.ok (de_tup Z0.ok (da_cons Z0.ok (dv 0) (da_cons Z0.ok (dv 1) (da_cons Z0.ok (dv 2) (da_cons Z0.ok (dv 3) da_nil))))) da_nil))) (ds_cons Z0.ok (ds_expr (de_callX Z0.ok (ok_check_part D) hr (by decide) (ALen.cons ALen.nil) (da_cons Z0.ok (dv 4) da_nil))) (ds_cons Z0.ok (ds_expr (de_callX Z0.ok (ok_check_part D) hr (by decide) (ALen.cons ALen.nil) (da_cons Z0.ok (dv 5) da_nil))) (ds_one (ds_if Z0.ok (dt_w (dw_and Z0.ok (dt_cmp Z0.ok (o_eq (DF.Room.u64 hr)) (dv 4) (de_gtup ([.int (1), .int (1)]) (by rfl) D.g_ONE) (nomark _)) (dw_and1 (dt_cmp Z0.ok (o_eq (DF.Room.u64 hr)) (dv 5) (de_gtup ([.int (1), .int (1)]) (by rfl) D.g_ONE) (nomark _))))) (ds_one ds_never) ds_nil)))))

/-! lines_of -/
theorem sc_lines_of : FnScope ["text", "line"] ["text"] (defScope s_lines_of) := ⟨rfl, rfl, rfl, by decide +kernel, rfl, by decide +kernel, by decide +kernel⟩
theorem ok_lines_of (D : Dat K cl mg) : Ok P w K cl mg base 1 "lines_of" ["text"] m_lines_of := by
  refine ok_def D.d_lines_of sc_lines_of (fun _ _ _ _ _ _ us hl => match us, hl with | [_], _ => rfl) (fun f cdv A outer s H E hr => ?_)
  unfold M_lines_of
  exact (ds_one (ds_ret (de_ofL Z0.ok (dl_lc (own := [("line", 1)]) Z0.ok rfl sc_lines_of.nd (di_val Z0.ok (de_split Z0.ok (dv 0) (de_gstr D.g_FEED))) (blkOk_by (by show blkC ["text", "line"] (defScope s_lines_of) _ _ = true; decide +kernel)) (fun _ _ _ _ _ => (dg_name sc_lines_of.nd (i := 1) rfl (by first | exact Or.inl rfl | exact Or.inr rfl))) (fun _ _ _ _ _ => dts_nil) (fun _ _ _ _ _ => (de_split Z0.ok (dv 1) (de_gstr D.g_BLANK)))))))

/-! is_next_region -/
theorem sc_is_next_region : FnScope ["found", "words"] ["found", "words"] (defScope s_is_next_region) := ⟨rfl, rfl, rfl, by decide +kernel, rfl, by decide +kernel, by decide +kernel⟩
theorem ok_is_next_region (D : Dat K cl mg) : Ok P w K cl mg base 1 "is_next_region" ["found", "words"] m_is_next_region := by
  refine ok_def D.d_is_next_region sc_is_next_region (fun _ _ _ _ _ _ us hl => match us, hl with | [_, _], _ => rfl) (fun f cdv A outer s H E hr => ?_)
  unfold M_is_next_region
  exact (ds_one (ds_ret (de_and Z0.ok (de_cmp Z0.ok o_lt (de_callB Z0.ok o_len rfl D.n_len (by rfl) (da_cons Z0.ok (dv 0) da_nil)) (de_gint D.g_FOUR) (nomark _)) (de_one (de_cmp Z0.ok (o_eq (DF.Room.u64 hr)) (dv 1) (de_ofL Z0.ok (dl_lst Z0.ok (da_cons Z0.ok (de_ix Z0.ok (DF.Room.u1 hr) (de_gtup ([.str "inside", .str "first", .str "second", .str "none"]) (by rfl) D.g_REGIONS) (de_callB Z0.ok o_len rfl D.n_len (by rfl) (da_cons Z0.ok (dv 0) da_nil)) (fun _ _ => rfl) (fun _ _ => rfl)) da_nil))) (nomark _))))))

/-! whole_in -/
theorem sc_whole_in : FnScope ["word", "figures", "sign"] ["word"] (defScope s_whole_in) := ⟨rfl, rfl, rfl, by decide +kernel, rfl, by decide +kernel, by decide +kernel⟩
theorem ok_whole_in (D : Dat K cl mg) : Ok P w K cl mg base 1 "whole_in" ["word"] m_whole_in := by
  refine ok_def D.d_whole_in sc_whole_in (fun _ _ _ _ _ _ us hl => match us, hl with | [_], _ => rfl) (fun f cdv A outer s H E hr => ?_)
  unfold M_whole_in
  exact (ds_cons Z0.ok (ds_set (i := 1) sc_whole_in.nd rfl (by first | exact Or.inl rfl | exact Or.inr rfl) (dr_val (de_if Z0.ok (dt_cmp Z0.ok (o_eq (DF.Room.u64 hr)) (de_slice Z0.ok (dv 0) do_none (do_some Z0.ok de_int)) (de_gstr D.g_MINUS) (nomark _)) (de_slice Z0.ok (dv 0) (do_some Z0.ok de_int) do_none) (dv 0)))) (ds_cons Z0.ok (ds_if Z0.ok (dt_w (dw_or Z0.ok (dt_not Z0.ok (dt_chain Z0.ok o_le o_le de_int (de_callB Z0.ok o_len rfl D.n_len (by rfl) (da_cons Z0.ok (dv 1) da_nil)) (de_gint D.g_MOST_FIGURES))) (dw_or1 (dt_not Z0.ok (dt_val Z0.ok (de_callB Z0.ok (o_all rfl) rfl D.n_all (by rfl) (da_cons Z0.ok (de_ofL Z0.ok (dl_lc (own := [("sign", 2)]) Z0.ok rfl sc_whole_in.nd (di_val Z0.ok (dv 1)) (blkOk_by (by show blkC ["word", "figures", "sign"] (defScope s_whole_in) _ _ = true; decide +kernel)) (fun _ _ _ _ _ => (dg_name sc_whole_in.nd (i := 2) rfl (by first | exact Or.inl rfl | exact Or.inr rfl))) (fun _ _ _ _ _ => dts_nil) (fun _ _ _ _ _ => (de_cmp Z0.ok (o_in (DF.Room.u65 hr)) (dv 2) (de_gstr D.g_FIGURES) (by rfl))))) da_nil))))))) (ds_one (ds_ret de_non)) ds_nil) (ds_one (ds_ret (de_if Z0.ok (dt_w (dw_and Z0.ok (dt_cmp Z0.ok (o_eq (DF.Room.u64 hr)) (de_ix Z0.ok (DF.Room.u1 hr) (dv 1) de_int (fun _ _ => rfl) (fun _ _ => rfl)) de_str (nomark _)) (dw_and1 (dt_cmp Z0.ok (o_ne (DF.Room.u64 hr)) (dv 0) de_str (nomark _))))) de_non (de_callTy Z0.ok o_int rfl D.n_int (by rfl) (da_cons Z0.ok (dv 0) da_nil)))))))

/-! ratio_in -/
theorem sc_ratio_in : FnScope ["word", "numbers", "found", "one"] ["word"] (defScope s_ratio_in) := ⟨rfl, rfl, rfl, by decide +kernel, rfl, by decide +kernel, by decide +kernel⟩
theorem ok_ratio_in (D : Dat K cl mg) : Ok P w K cl mg base 3 "ratio_in" ["word"] m_ratio_in := by
  refine ok_def D.d_ratio_in sc_ratio_in (fun _ _ _ _ _ _ us hl => match us, hl with | [_], _ => rfl) (fun f cdv A outer s H E hr => ?_)
  unfold M_ratio_in
  exact (ds_cons Z0.ok (ds_setLc (own := [("one", 3)]) (i := 1) Z0.ok rfl sc_ratio_in.nd rfl rfl (sw_true rfl rfl rfl (by decide +kernel)) (di_val Z0.ok (de_split Z0.ok (dv 0) (de_gstr D.g_OVER))) (blkOk_by (by show blkC ["word", "numbers", "found", "one"] (defScope s_ratio_in) _ _ = true; decide +kernel)) (fun _ _ _ _ _ => (dg_name sc_ratio_in.nd (i := 3) rfl (by first | exact Or.inl rfl | exact Or.inr rfl))) (fun _ _ _ _ _ => dts_nil) (fun _ _ _ _ _ => (de_callX Z0.ok (ok_whole_in D) hr (by decide) (ALen.cons ALen.nil) (da_cons Z0.ok (dv 3) da_nil))) (by decide) (fun _ _ _ q => wr_val q)) (ds_cons Z0.ok (ds_if Z0.ok (dt_w (dw_or Z0.ok (dt_cmp Z0.ok (o_in (DF.Room.u65 hr)) de_non (dv 1) (by rfl)) (dw_or1 (dt_cmp Z0.ok o_gt (de_callB Z0.ok o_len rfl D.n_len (by rfl) (da_cons Z0.ok (dv 1) da_nil)) (de_gint D.g_PAIR_ratios) (nomark _))))) (ds_one (ds_ret de_non)) ds_nil) (ds_cons Z0.ok (ds_if Z0.ok (dt_cmp Z0.ok (o_eq (DF.Room.u64 hr)) (de_callB Z0.ok o_len rfl D.n_len (by rfl) (da_cons Z0.ok (dv 1) da_nil)) de_int (nomark _)) (ds_one (ds_ret (de_tup Z0.ok (da_cons Z0.ok (de_ix Z0.ok (DF.Room.u1 hr) (dv 1) de_int (fun _ _ => rfl) (fun _ _ => rfl)) (da_cons Z0.ok de_int da_nil))))) ds_nil) (ds_cons Z0.ok (ds_set (i := 2) sc_ratio_in.nd rfl (by first | exact Or.inl rfl | exact Or.inr rfl) (dr_val (de_tup Z0.ok (da_cons Z0.ok (de_ix Z0.ok (DF.Room.u1 hr) (dv 1) de_int (fun _ _ => rfl) (fun _ _ => rfl)) (da_cons Z0.ok (de_ix Z0.ok (DF.Room.u1 hr) (dv 1) de_int (fun _ _ => rfl) (fun _ _ => rfl)) da_nil))))) (ds_one (ds_ret (de_if Z0.ok (dt_w (dw_and Z0.ok (dt_cmp Z0.ok o_gt (de_ix Z0.ok (DF.Room.u1 hr) (dv 2) de_int (fun _ _ => rfl) (fun _ _ => rfl)) de_int (nomark _)) (dw_and1 (dt_val Z0.ok (de_callX Z0.ok (ok_is_ratio D) hr (by decide) (ALen.cons ALen.nil) (da_cons Z0.ok (dv 2) da_nil)))))) (dv 2) de_non)))))))

/-! step_in -/
theorem sc_step_in : FnScope ["words", "chance", "word"] ["words"] (defScope s_step_in) := ⟨rfl, rfl, rfl, by decide +kernel, rfl, by decide +kernel, by decide +kernel⟩
theorem ok_step_in (D : Dat K cl mg) : Ok P w K cl mg base 4 "step_in" ["words"] m_step_in := by
  refine ok_def D.d_step_in sc_step_in (fun _ _ _ _ _ _ us hl => match us, hl with | [_], _ => rfl) (fun f cdv A outer s H E hr => ?_)
  unfold M_step_in
  exact (ds_cons Z0.ok (ds_if Z0.ok (dt_w (dw_or Z0.ok (dt_cmp Z0.ok (o_ne (DF.Room.u64 hr)) (de_callB Z0.ok o_len rfl D.n_len (by rfl) (da_cons Z0.ok (dv 0) da_nil)) (de_gint D.g_FOUR) (nomark _)) (dw_or Z0.ok (dt_cmp Z0.ok (o_ne (DF.Room.u64 hr)) (de_ix Z0.ok (DF.Room.u1 hr) (dv 0) de_int (fun _ _ => rfl) (fun _ _ => rfl)) (de_gstr D.g_STEP) (nomark _)) (dw_or1 (dt_not Z0.ok (dt_val Z0.ok (de_callB Z0.ok (o_all rfl) rfl D.n_all (by rfl) (da_cons Z0.ok (de_ofL Z0.ok (dl_lc (own := [("word", 2)]) Z0.ok rfl sc_step_in.nd (di_val Z0.ok (de_slice Z0.ok (dv 0) (do_some Z0.ok de_int) (do_some Z0.ok (de_neg Z0.ok de_int)))) (blkOk_by (by show blkC ["words", "chance", "word"] (defScope s_step_in) _ _ = true; decide +kernel)) (fun _ _ _ _ _ => (dg_name sc_step_in.nd (i := 2) rfl (by first | exact Or.inl rfl | exact Or.inr rfl))) (fun _ _ _ _ _ => dts_nil) (fun _ _ _ _ _ => (de_cmp Z0.ok (o_in (DF.Room.u65 hr)) (dv 2) (de_gtup ([.str "-1", .str "0", .str "1", .str "2", .str "3"]) (by rfl) D.g_WORDS) (by rfl))))) da_nil)))))))) (ds_one (ds_ret de_non)) ds_nil) (ds_cons Z0.ok (ds_set (i := 1) sc_step_in.nd rfl (by first | exact Or.inl rfl | exact Or.inr rfl) (dr_val (de_callX Z0.ok (ok_ratio_in D) hr (by decide) (ALen.cons ALen.nil) (da_cons Z0.ok (de_ix Z0.ok (DF.Room.u1 hr) (dv 0) (de_neg Z0.ok de_int) (fun _ _ => rfl) (fun _ _ => rfl)) da_nil)))) (ds_cons Z0.ok (ds_if Z0.ok (dt_w (dw_or Z0.ok (dt_cmp Z0.ok o_is (dv 1) de_non (nomark _)) (dw_or1 (dt_cmp Z0.ok o_le (de_ix Z0.ok (DF.Room.u1 hr) (dv 1) de_int (fun _ _ => rfl) (fun _ _ => rfl)) de_int (nomark _))))) (ds_one (ds_ret de_non)) ds_nil) (ds_one (ds_ret (de_tup Z0.ok (da_cons Z0.ok (de_callTy Z0.ok o_int rfl D.n_int (by rfl) (da_cons Z0.ok (de_ix Z0.ok (DF.Room.u1 hr) (dv 0) de_int (fun _ _ => rfl) (fun _ _ => rfl)) da_nil)) (da_cons Z0.ok (de_callTy Z0.ok o_int rfl D.n_int (by rfl) (da_cons Z0.ok (de_ix Z0.ok (DF.Room.u1 hr) (dv 0) (de_gint D.g_PAIR_books) (fun _ _ => rfl) (fun _ _ => rfl)) da_nil)) (da_cons Z0.ok (dv 1) da_nil)))))))))

/-! least_of_region -/
theorem sc_least_of_region : FnScope ["region"] ["region"] (defScope s_least_of_region) := ⟨rfl, rfl, rfl, by decide +kernel, rfl, by decide +kernel, by decide +kernel⟩
theorem ok_least_of_region (D : Dat K cl mg) : Ok P w K cl mg base 1 "least_of_region" ["region"] m_least_of_region := by
  refine ok_def D.d_least_of_region sc_least_of_region (fun _ _ _ _ _ _ us hl => match us, hl with | [_], _ => rfl) (fun f cdv A outer s H E hr => ?_)
  unfold M_least_of_region
  exact (ds_one (ds_ret (de_tup Z0.ok (da_cons Z0.ok (de_if Z0.ok (dt_cmp Z0.ok (o_in (DF.Room.u65 hr)) (dv 0) (de_tup Z0.ok (da_cons Z0.ok (de_gstr D.g_SECOND) (da_cons Z0.ok (de_gstr D.g_NONE) da_nil))) (by rfl)) de_int (de_neg Z0.ok de_int)) (da_cons Z0.ok (de_if Z0.ok (dt_cmp Z0.ok (o_in (DF.Room.u65 hr)) (dv 0) (de_tup Z0.ok (da_cons Z0.ok (de_gstr D.g_FIRST) (da_cons Z0.ok (de_gstr D.g_NONE) da_nil))) (by rfl)) de_int (de_neg Z0.ok de_int)) da_nil)))))

/-! is_integer -/
theorem sc_is_integer : FnScope ["value", "low", "high"] ["value", "low", "high"] (defScope s_is_integer) := ⟨rfl, rfl, rfl, by decide +kernel, rfl, by decide +kernel, by decide +kernel⟩
theorem ok_is_integer (D : Dat K cl mg) : Ok P w K cl mg base 2 "is_integer" ["value", "low", "high"] m_is_integer := by
  refine ok_def D.d_is_integer sc_is_integer (fun _ _ _ _ _ _ us hl => match us, hl with | [_, _, _], _ => rfl) (fun f cdv A outer s H E hr => ?_)
  unfold M_is_integer
  exact (ds_one (ds_ret (de_and Z0.ok (de_callX Z0.ok (ok_is_whole D) hr (by decide) (ALen.cons ALen.nil) (da_cons Z0.ok (dv 0) da_nil)) (de_one (de_chain Z0.ok o_le o_le (dv 1) (dv 0) (dv 2))))))

/-! can_stand -/
theorem sc_can_stand : FnScope ["region", "i", "j", "low", "other_low"] ["region", "i", "j"] (defScope s_can_stand) := ⟨rfl, rfl, rfl, by decide +kernel, rfl, by decide +kernel, by decide +kernel⟩
theorem ok_can_stand (D : Dat K cl mg) : Ok P w K cl mg base 3 "can_stand" ["region", "i", "j"] m_can_stand := by
  refine ok_def D.d_can_stand sc_can_stand (fun _ _ _ _ _ _ us hl => match us, hl with | [_, _, _], _ => rfl) (fun f cdv A outer s H E hr => ?_)
  unfold M_can_stand
  exact (ds_cons Z0.ok (ds_asg Z0.ok (de_callX Z0.ok (ok_least_of_region D) hr (by decide) (ALen.cons ALen.nil) (da_cons Z0.ok (dv 0) da_nil)) (dg_tup rfl (dgs_cons Z0.ok (dg_name sc_can_stand.nd (i := 3) rfl (by first | exact Or.inl rfl | exact Or.inr rfl)) (dgs_cons Z0.ok (dg_name sc_can_stand.nd (i := 4) rfl (by first | exact Or.inl rfl | exact Or.inr rfl)) dgs_nil)))) (ds_one (ds_ret (de_and Z0.ok (de_callX Z0.ok (ok_is_integer D) hr (by decide) (ALen.cons (ALen.cons (ALen.cons ALen.nil))) (da_cons Z0.ok (dv 1) (da_cons Z0.ok (dv 3) (da_cons Z0.ok (de_gint D.g_MOST_GROWN) da_nil)))) (de_one (de_callX Z0.ok (ok_is_integer D) hr (by decide) (ALen.cons (ALen.cons (ALen.cons ALen.nil))) (da_cons Z0.ok (dv 2) (da_cons Z0.ok (dv 4) (da_cons Z0.ok (de_gint D.g_MOST_GROWN) da_nil)))))))))

/-! has_step -/
theorem sc_has_step : FnScope ["steps", "i", "j", "step"] ["steps", "i", "j"] (defScope s_has_step) := ⟨rfl, rfl, rfl, by decide +kernel, rfl, by decide +kernel, by decide +kernel⟩
theorem ok_has_step (D : Dat K cl mg) : Ok P w K cl mg base 1 "has_step" ["steps", "i", "j"] m_has_step := by
  refine ok_def D.d_has_step sc_has_step (fun _ _ _ _ _ _ us hl => match us, hl with | [_, _, _], _ => rfl) (fun f cdv A outer s H E hr => ?_)
  unfold M_has_step
  exact (ds_one (ds_ret (de_cmp Z0.ok (o_in (DF.Room.u65 hr)) (de_tup Z0.ok (da_cons Z0.ok (dv 1) (da_cons Z0.ok (dv 2) da_nil))) (de_ofL Z0.ok (dl_lc (own := [("step", 3)]) Z0.ok rfl sc_has_step.nd (di_val Z0.ok (dv 0)) (blkOk_by (by show blkC ["steps", "i", "j", "step"] (defScope s_has_step) _ _ = true; decide +kernel)) (fun _ _ _ _ _ => (dg_name sc_has_step.nd (i := 3) rfl (by first | exact Or.inl rfl | exact Or.inr rfl))) (fun _ _ _ _ _ => dts_nil) (fun _ _ _ _ _ => (de_slice Z0.ok (dv 3) do_none (do_some Z0.ok (de_gint D.g_PAIR_books)))))) (by rfl))))

/-! does_step_stand -/
theorem sc_does_step_stand : FnScope ["found", "words", "step", "steps"] ["found", "words"] (defScope s_does_step_stand) := ⟨rfl, rfl, rfl, by decide +kernel, rfl, by decide +kernel, by decide +kernel⟩
theorem ok_does_step_stand (D : Dat K cl mg) : OkStand P w K cl mg base 5 "does_step_stand" ["found", "words"] F_does_step_stand := by
  unfold F_does_step_stand
  refine ok_stand D.d_does_step_stand sc_does_step_stand rfl rfl (fun _ _ _ _ _ _ us hl => match us, hl with | [_, _], _ => rfl) (fun f cdv A outer s H E hr => ?_)
  exact pss_cons (ps_set (i := 2) sc_does_step_stand.nd rfl (by first | exact Or.inl rfl | exact Or.inr rfl) (de_callX Z0.ok (ok_step_in D) hr (by decide) (ALen.cons ALen.nil) (da_cons Z0.ok (dv 1) da_nil))) (pss_cons (ps_if (dt_w (dw_or Z0.ok (dt_cmp Z0.ok o_is (dv 2) de_non (nomark _)) (dw_or1 (dt_cmp Z0.ok (o_eq (DF.Room.u64 hr)) (dv 0) (de_ofL Z0.ok (dl_lst Z0.ok da_nil)) (nomark _))))) (pss_one (ps_ret pe_bl)) pss_nil) (pss_cons (ps_set (i := 3) sc_does_step_stand.nd rfl (by first | exact Or.inl rfl | exact Or.inr rfl) (pe_ix ix_list (pv 0) (pe_un un_neg pe_int) (fun _ _ => rfl))) (pss_cons (ps_if (dt_not Z0.ok (dt_val Z0.ok (de_callX Z0.ok (ok_can_stand D) hr (by decide) (ALen.cons (ALen.cons (ALen.cons ALen.nil))) (da_cons Z0.ok (de_ix Z0.ok (DF.Room.u1 hr) (de_gtup ([.str "inside", .str "first", .str "second", .str "none"]) (by rfl) D.g_REGIONS) (de_bin Z0.ok o_sub (de_callB Z0.ok o_len rfl D.n_len (by rfl) (da_cons Z0.ok (dv 0) da_nil)) de_int) (fun _ _ => rfl) (fun _ _ => rfl)) (da_cons Z0.ok (de_ix Z0.ok (DF.Room.u1 hr) (dv 2) de_int (fun _ _ => rfl) (fun _ _ => rfl)) (da_cons Z0.ok (de_ix Z0.ok (DF.Room.u1 hr) (dv 2) de_int (fun _ _ => rfl) (fun _ _ => rfl)) da_nil)))))) (pss_one (ps_ret pe_bl)) pss_nil) (pss_cons (ps_if (dt_w (dw_or Z0.ok (dt_cmp Z0.ok (o_eq (DF.Room.u64 hr)) (de_callB Z0.ok o_len rfl D.n_len (by rfl) (da_cons Z0.ok (dv 3) da_nil)) (de_gint D.g_MOST_STEPS) (nomark _)) (dw_or1 (dt_val Z0.ok (de_callX Z0.ok (ok_has_step D) hr (by decide) (ALen.cons (ALen.cons (ALen.cons ALen.nil))) (da_cons Z0.ok (dv 3) (da_cons Z0.ok (de_ix Z0.ok (DF.Room.u1 hr) (dv 2) de_int (fun _ _ => rfl) (fun _ _ => rfl)) (da_cons Z0.ok (de_ix Z0.ok (DF.Room.u1 hr) (dv 2) de_int (fun _ _ => rfl) (fun _ _ => rfl)) da_nil)))))))) (pss_one (ps_ret pe_bl)) pss_nil) (pss_cons (ds_appRaw 3 (pv 3) (pv 2)) (pss_one (ps_ret pe_bl)))))))

/-! regions_in -/
theorem sc_regions_in : FnScope ["text", "rows", "found", "ends", "at", "words", "steps", "i", "j", "chance"] ["text"] (defScope s_regions_in) := ⟨rfl, rfl, rfl, by decide +kernel, rfl, by decide +kernel, by decide +kernel⟩
theorem ok_regions_in (D : Dat K cl mg) : Ok P w K cl mg base 6 "regions_in" ["text"] m_regions_in := by
  unfold m_regions_in R_regions_in
  refine ok_reg ⟨fun _ _ => rfl, fun _ _ => rfl, fun _ _ => rfl⟩ D.d_regions_in sc_regions_in rfl rfl (fun _ _ _ _ _ _ us hl => match us, hl with | [_], _ => rfl) (fun f cdv A outer s H E hr => ?_)
  exact pss_cons (ps_par3 (i := 1) (j := 2) (l := 3) rfl sc_regions_in.nd rfl rfl rfl (by decide) (by decide) (by decide) rfl rfl rfl (pa_cons (de_callX Z0.ok (ok_lines_of D) hr (by decide) (ALen.cons ALen.nil) (da_cons Z0.ok (dv 0) da_nil)) (pa_cons (pe_lst pa_nil) (pa_cons (pe_lst pa_nil) pa_nil))) (by rfl)) (pss_cons (ps_if (dt_cmp Z0.ok (o_ne (DF.Room.u64 hr)) (de_ix Z0.ok (DF.Room.u1 hr) (dv 1) de_int (fun _ _ => rfl) (fun _ _ => rfl)) (de_ofL Z0.ok (dl_lst Z0.ok (da_cons Z0.ok (de_gstr D.g_BOOK) da_nil))) (nomark _)) (pss_one (ps_ret (de_tup Z0.ok (da_cons Z0.ok de_non (da_cons Z0.ok de_int da_nil))))) pss_nil) (pss_cons (ps_for PassesOwn.never rfl (di_enum Z0.ok rfl D.n_enumerate (da_cons Z0.ok (de_slice Z0.ok (dv 1) (do_some Z0.ok de_int) do_none) da_nil)) (dg_tup rfl (dgs_cons Z0.ok (dg_name sc_regions_in.nd (i := 4) rfl (by first | exact Or.inl rfl | exact Or.inr rfl)) (dgs_cons Z0.ok (dg_name sc_regions_in.nd (i := 5) rfl (by first | exact Or.inl rfl | exact Or.inr rfl)) dgs_nil))) (pss_one (ps_if (dt_val Z0.ok (de_callX Z0.ok (ok_is_next_region D) hr (by decide) (ALen.cons (ALen.cons ALen.nil)) (da_cons Z0.ok (dv 2) (da_cons Z0.ok (dv 5) da_nil)))) (pss_cons (ds_appRaw 3 (pv 3) (de_bin Z0.ok o_add (dv 4) (de_gint D.g_PAIR_books))) (pss_one (ds_appRaw 2 (pv 2) (pe_lst pa_nil)))) (pss_one (ps_if (pt_not (pt_val (pe_stand (ok_does_step_stand D) hr (by decide) (pa_cons (pv 2) (pa_cons (pv 5) pa_nil))))) (pss_one (ps_ret (de_tup Z0.ok (da_cons Z0.ok de_non (da_cons Z0.ok (de_bin Z0.ok o_add (dv 4) (de_gint D.g_PAIR_books)) da_nil))))) pss_nil))))) (ds_cons Z0.ok (ds_app Z0.ok 3 (pv 3) (de_bin Z0.ok o_add (de_callB Z0.ok o_len rfl D.n_len (by rfl) (da_cons Z0.ok (dv 1) da_nil)) de_int)) (ds_cons Z0.ok (ds_for Z0.ok PassesOwn.never rfl (di_enum Z0.ok rfl D.n_enumerate (da_cons Z0.ok (dv 2) da_nil)) (dg_tup rfl (dgs_cons Z0.ok (dg_name sc_regions_in.nd (i := 4) rfl (by first | exact Or.inl rfl | exact Or.inr rfl)) (dgs_cons Z0.ok (dg_name sc_regions_in.nd (i := 6) rfl (by first | exact Or.inl rfl | exact Or.inr rfl)) dgs_nil))) (ds_one (ds_if Z0.ok (dt_cmp Z0.ok (o_ne (DF.Room.u64 hr)) (de_callX Z0.ok (ok_total D) hr (by decide) (ALen.cons ALen.nil) (da_cons Z0.ok (de_ofL Z0.ok (dl_lc (own := [("i", 7), ("j", 8), ("chance", 9)]) Z0.ok rfl sc_regions_in.nd (di_val Z0.ok (dv 6)) (blkOk_by (by show blkC ["text", "rows", "found", "ends", "at", "words", "steps", "i", "j", "chance"] (defScope s_regions_in) _ _ = true; decide +kernel)) (fun _ _ _ _ _ => (dg_tup rfl (dgs_cons Z0.ok (dg_name sc_regions_in.nd (i := 7) rfl (by first | exact Or.inl rfl | exact Or.inr rfl)) (dgs_cons Z0.ok (dg_name sc_regions_in.nd (i := 8) rfl (by first | exact Or.inl rfl | exact Or.inr rfl)) (dgs_cons Z0.ok (dg_name sc_regions_in.nd (i := 9) rfl (by first | exact Or.inl rfl | exact Or.inr rfl)) dgs_nil))))) (fun _ _ _ _ _ => dts_nil) (fun _ _ _ _ _ => (dv 9)))) da_nil)) (de_gtup ([.int (1), .int (1)]) (by rfl) D.g_ONE) (nomark _)) (ds_one (ds_ret (de_tup Z0.ok (da_cons Z0.ok de_non (da_cons Z0.ok (de_ixO Z0.ok 3 (pv 3) (de_bin Z0.ok o_add (dv 4) de_int) (fun _ _ => rfl)) da_nil))))) ds_nil))) (ds_one (ds_ret (de_if Z0.ok (dt_cmp Z0.ok (o_eq (DF.Room.u64 hr)) (de_callB Z0.ok o_len rfl D.n_len (by rfl) (da_cons Z0.ok (dv 2) da_nil)) (de_gint D.g_FOUR) (nomark _)) (de_tup Z0.ok (da_cons Z0.ok (dv 2) (da_cons Z0.ok de_non da_nil))) (de_tup Z0.ok (da_cons Z0.ok de_non (da_cons Z0.ok (de_bin Z0.ok o_add (de_callB Z0.ok o_len rfl D.n_len (by rfl) (da_cons Z0.ok (dv 1) da_nil)) de_int) da_nil))))))))))

/-! Book -/
theorem sc_Book : FnScope ["self", "text", "found", "number", "steps"] ["self", "text"] (defScope s_Book) := ⟨rfl, rfl, rfl, by decide +kernel, rfl, by decide +kernel, by decide +kernel⟩
theorem ok_Book (D : Dat K cl mg) : OkBook P w K cl mg base 7 (cl 0) ["self", "text"] R_Book.fn := by
  unfold R_Book
  refine ok_book ⟨fun _ _ => rfl⟩ D.sc_Book D.sl_Book_own_text D.sl_Book_own_regions D.m_Book sc_Book rfl rfl (fun _ _ _ _ _ _ us hl => match us, hl with | [_, _], _ => rfl) (fun f cdv A outer s H E hr => ?_)
  exact pss_cons (ps_if (dt_not Z0.ok (dt_val Z0.ok (de_callB Z0.ok o_isi rfl D.n_isinstance (by rfl) (da_cons Z0.ok (dv 1) (da_cons Z0.ok (de_ty (n := "str") rfl D.n_str (by rfl)) da_nil))))) (pss_one ps_never) pss_nil) (pss_cons (ps_asg (de_callX Z0.ok (ok_regions_in D) hr (by decide) (ALen.cons ALen.nil) (da_cons Z0.ok (dv 1) da_nil)) (dg_tup rfl (dgs_cons Z0.ok (dg_name sc_Book.nd (i := 2) rfl (by first | exact Or.inl rfl | exact Or.inr rfl)) (dgs_cons Z0.ok (dg_name sc_Book.nd (i := 3) rfl (by first | exact Or.inl rfl | exact Or.inr rfl)) dgs_nil)))) (pss_cons (ps_if (dt_cmp Z0.ok o_is (dv 2) de_non (nomark _)) (pss_one ps_never) pss_nil) (pss_cons (SlX.ps_sl (pv 0) (pv 1)) (pss_one (SlX.ps_sl (pv 0) (de_callTy Z0.ok o_tuple rfl D.n_tuple (by rfl) (da_cons Z0.ok (de_ofL Z0.ok (dl_lc (own := [("steps", 4)]) Z0.ok rfl sc_Book.nd (di_val Z0.ok (dv 2)) (blkOk_by (by show blkC ["self", "text", "found", "number", "steps"] (defScope s_Book) _ _ = true; decide +kernel)) (fun _ _ _ _ _ => (dg_name sc_Book.nd (i := 4) rfl (by first | exact Or.inl rfl | exact Or.inr rfl))) (fun _ _ _ _ _ => dts_nil) (fun _ _ _ _ _ => (de_callTy Z0.ok o_tuple rfl D.n_tuple (by rfl) (da_cons Z0.ok (dv 4) da_nil))))) da_nil)))))))

/-! ratio_word -/
theorem sc_ratio_word : FnScope ["one"] ["one"] (defScope s_ratio_word) := ⟨rfl, rfl, rfl, by decide +kernel, rfl, by decide +kernel, by decide +kernel⟩
theorem ok_ratio_word (D : Dat K cl mg) : Ok P w K cl mg base 1 "ratio_word" ["one"] m_ratio_word := by
  refine ok_def D.d_ratio_word sc_ratio_word (fun _ _ _ _ _ _ us hl => match us, hl with | [_], _ => rfl) (fun f cdv A outer s H E hr => ?_)
  unfold M_ratio_word
  exact (ds_one (ds_ret (de_if Z0.ok (dt_cmp Z0.ok (o_eq (DF.Room.u64 hr)) (de_ix Z0.ok (DF.Room.u1 hr) (dv 0) de_int (fun _ _ => rfl) (fun _ _ => rfl)) de_int (nomark _)) (de_fs1 (de_fmt Z0.ok (de_ix Z0.ok (DF.Room.u1 hr) (dv 0) de_int (fun _ _ => rfl) (fun _ _ => rfl)))) (de_fs Z0.ok (.cons (de_fmt Z0.ok (de_ix Z0.ok (DF.Room.u1 hr) (dv 0) de_int (fun _ _ => rfl) (fun _ _ => rfl))) (.cons (de_fmt Z0.ok (de_gstr D.g_OVER)) (.cons (de_fmt Z0.ok (de_ix Z0.ok (DF.Room.u1 hr) (dv 0) de_int (fun _ _ => rfl) (fun _ _ => rfl))) .nil)))))))

/-! region_rows -/
theorem sc_region_rows : FnScope ["region", "steps", "rows", "i", "j", "chance"] ["region", "steps"] (defScope s_region_rows) := ⟨rfl, rfl, rfl, by decide +kernel, rfl, by decide +kernel, by decide +kernel⟩
theorem ok_region_rows (D : Dat K cl mg) : Ok P w K cl mg base 2 "region_rows" ["region", "steps"] m_region_rows := by
  refine ok_def D.d_region_rows sc_region_rows (fun _ _ _ _ _ _ us hl => match us, hl with | [_, _], _ => rfl) (fun f cdv A outer s H E hr => ?_)
  unfold M_region_rows
  exact (ds_cons Z0.ok (ds_setLc (own := [("i", 3), ("j", 4), ("chance", 5)]) (i := 2) Z0.ok rfl sc_region_rows.nd rfl rfl (sw_true rfl rfl rfl (by decide +kernel)) (di_val Z0.ok (dv 1)) (blkOk_by (by show blkC ["region", "steps", "rows", "i", "j", "chance"] (defScope s_region_rows) _ _ = true; decide +kernel)) (fun _ _ _ _ _ => (dg_tup rfl (dgs_cons Z0.ok (dg_name sc_region_rows.nd (i := 3) rfl (by first | exact Or.inl rfl | exact Or.inr rfl)) (dgs_cons Z0.ok (dg_name sc_region_rows.nd (i := 4) rfl (by first | exact Or.inl rfl | exact Or.inr rfl)) (dgs_cons Z0.ok (dg_name sc_region_rows.nd (i := 5) rfl (by first | exact Or.inl rfl | exact Or.inr rfl)) dgs_nil))))) (fun _ _ _ _ _ => dts_nil) (fun _ _ _ _ _ => (de_join Z0.ok (de_gstr D.g_BLANK) (de_ofL Z0.ok (dl_lst Z0.ok (da_cons Z0.ok (de_gstr D.g_STEP) (da_cons Z0.ok (de_callTy Z0.ok o_str rfl D.n_str (by rfl) (da_cons Z0.ok (dv 3) da_nil)) (da_cons Z0.ok (de_callTy Z0.ok o_str rfl D.n_str (by rfl) (da_cons Z0.ok (dv 4) da_nil)) (da_cons Z0.ok (de_callX Z0.ok (ok_ratio_word D) hr (by decide) (ALen.cons ALen.nil) (da_cons Z0.ok (dv 5) da_nil)) da_nil)))))))) (by decide) (fun _ _ _ q => wr_val q)) (ds_one (ds_ret (de_ofL Z0.ok (dl_lst Z0.ok (da_cons Z0.ok (dv 0) (da_star Z0.ok (dv 2) da_nil)))))))

/-! book_of -/
theorem sc_book_of : FnScope ["regions", "rows", "region", "steps"] ["regions"] (defScope s_book_of) := ⟨rfl, rfl, rfl, by decide +kernel, rfl, by decide +kernel, by decide +kernel⟩
theorem ok_book_of (D : Dat K cl mg) : Ok P w K cl mg base 9 "book_of" ["regions"] m_book_of := by
  refine ok_def D.d_book_of sc_book_of (fun _ _ _ _ _ _ us hl => match us, hl with | [_], _ => rfl) (fun f cdv A outer s H E hr => ?_)
  unfold M_book_of
  exact (ds_cons Z0.ok (ds_set (i := 1) sc_book_of.nd rfl (by first | exact Or.inl rfl | exact Or.inr rfl) (dr_own (dl_lst Z0.ok (da_cons Z0.ok (de_gstr D.g_BOOK) da_nil)))) (ds_cons Z0.ok (ds_for Z0.ok PassesOwn.never rfl (di_zip3 Z0.ok rfl D.n_zip (da_cons Z0.ok (de_gtup ([.str "inside", .str "first", .str "second", .str "none"]) (by rfl) D.g_REGIONS) (da_cons Z0.ok (dv 0) da_nil))) (dg_tup rfl (dgs_cons Z0.ok (dg_name sc_book_of.nd (i := 2) rfl (by first | exact Or.inl rfl | exact Or.inr rfl)) (dgs_cons Z0.ok (dg_name sc_book_of.nd (i := 3) rfl (by first | exact Or.inl rfl | exact Or.inr rfl)) dgs_nil))) (ds_one (ds_ext Z0.ok 1 (pv 1) (de_callX Z0.ok (ok_region_rows D) hr (by decide) (ALen.cons (ALen.cons ALen.nil)) (da_cons Z0.ok (dv 2) (da_cons Z0.ok (dv 3) da_nil)))))) (ds_one (ds_frz Z0.ok 1 (ds_ret (de_new (c := 0) (ok_Book D) hr (by decide) (da_cons Z0.ok (de_join Z0.ok (de_gstr D.g_FEED) (dv 1)) da_nil) D.c_Book))))))

/-! less -/
theorem sc_less : FnScope ["one", "other"] ["one", "other"] (defScope s_less) := ⟨rfl, rfl, rfl, by decide +kernel, rfl, by decide +kernel, by decide +kernel⟩
theorem ok_less (D : Dat K cl mg) : Ok P w K cl mg base 3 "less" ["one", "other"] m_less := by
  refine ok_def D.d_less sc_less (fun _ _ _ _ _ _ us hl => match us, hl with | [_, _], _ => rfl) (fun f cdv A outer s H E hr => ?_)
  unfold M_less
  exact (ds_one (ds_ret (de_callX Z0.ok (ok_ratio D) hr (by decide) (ALen.cons (ALen.cons ALen.nil)) (da_cons Z0.ok (de_bin Z0.ok o_sub (de_bin Z0.ok o_mul (de_ix Z0.ok (DF.Room.u1 hr) (dv 0) de_int (fun _ _ => rfl) (fun _ _ => rfl)) (de_ix Z0.ok (DF.Room.u1 hr) (dv 1) de_int (fun _ _ => rfl) (fun _ _ => rfl))) (de_bin Z0.ok o_mul (de_ix Z0.ok (DF.Room.u1 hr) (dv 1) de_int (fun _ _ => rfl) (fun _ _ => rfl)) (de_ix Z0.ok (DF.Room.u1 hr) (dv 0) de_int (fun _ _ => rfl) (fun _ _ => rfl)))) (da_cons Z0.ok (de_bin Z0.ok o_mul (de_ix Z0.ok (DF.Room.u1 hr) (dv 0) de_int (fun _ _ => rfl) (fun _ _ => rfl)) (de_ix Z0.ok (DF.Room.u1 hr) (dv 1) de_int (fun _ _ => rfl) (fun _ _ => rfl))) da_nil)))))

/-! filled -/
theorem sc_filled : FnScope ["steps", "found", "lacking", "step", "chance"] ["steps"] (defScope s_filled) := ⟨rfl, rfl, rfl, by decide +kernel, rfl, by decide +kernel, by decide +kernel⟩
theorem ok_filled (D : Dat K cl mg) : Ok P w K cl mg base 5 "filled" ["steps"] m_filled := by
  refine ok_def D.d_filled sc_filled (fun _ _ _ _ _ _ us hl => match us, hl with | [_], _ => rfl) (fun f cdv A outer s H E hr => ?_)
  unfold M_filled
  exact (ds_cons Z0.ok (ds_setLc (own := [("step", 3), ("chance", 4)]) (i := 1) Z0.ok rfl sc_filled.nd rfl rfl (sw_true rfl rfl rfl (by decide +kernel)) (di_val Z0.ok (dv 0)) (blkOk_by (by show blkC ["steps", "found", "lacking", "step", "chance"] (defScope s_filled) _ _ = true; decide +kernel)) (fun _ _ _ _ _ => (dg_tup rfl (dgs_cons Z0.ok (dg_name sc_filled.nd (i := 3) rfl (by first | exact Or.inl rfl | exact Or.inr rfl)) (dgs_cons Z0.ok (dg_name sc_filled.nd (i := 4) rfl (by first | exact Or.inl rfl | exact Or.inr rfl)) dgs_nil)))) (fun _ _ _ _ _ => (dts_one (dt_cmp Z0.ok (o_ne (DF.Room.u64 hr)) (dv 4) (de_gtup ([.int (0), .int (1)]) (by rfl) D.g_NOUGHT) (nomark _)))) (fun _ _ _ _ _ => (de_tup Z0.ok (da_cons Z0.ok (de_ix Z0.ok (DF.Room.u1 hr) (dv 3) de_int (fun _ _ => rfl) (fun _ _ => rfl)) (da_cons Z0.ok (de_ix Z0.ok (DF.Room.u1 hr) (dv 3) de_int (fun _ _ => rfl) (fun _ _ => rfl)) (da_cons Z0.ok (dv 4) da_nil))))) (by decide) (fun _ _ _ q => wr_val q)) (ds_cons Z0.ok (ds_set (i := 2) sc_filled.nd rfl (by first | exact Or.inl rfl | exact Or.inr rfl) (dr_val (de_callX Z0.ok (ok_less D) hr (by decide) (ALen.cons (ALen.cons ALen.nil)) (da_cons Z0.ok (de_gtup ([.int (1), .int (1)]) (by rfl) D.g_ONE) (da_cons Z0.ok (de_callX Z0.ok (ok_total D) hr (by decide) (ALen.cons ALen.nil) (da_cons Z0.ok (de_ofL Z0.ok (dl_lc (own := [("step", 3), ("chance", 4)]) Z0.ok rfl sc_filled.nd (di_val Z0.ok (dv 0)) (blkOk_by (by show blkC ["steps", "found", "lacking", "step", "chance"] (defScope s_filled) _ _ = true; decide +kernel)) (fun _ _ _ _ _ => (dg_tup rfl (dgs_cons Z0.ok (dg_name sc_filled.nd (i := 3) rfl (by first | exact Or.inl rfl | exact Or.inr rfl)) (dgs_cons Z0.ok (dg_name sc_filled.nd (i := 4) rfl (by first | exact Or.inl rfl | exact Or.inr rfl)) dgs_nil)))) (fun _ _ _ _ _ => dts_nil) (fun _ _ _ _ _ => (dv 4)))) da_nil)) da_nil))))) (ds_one (ds_ret (de_if Z0.ok (dt_cmp Z0.ok (o_eq (DF.Room.u64 hr)) (dv 2) (de_gtup ([.int (0), .int (1)]) (by rfl) D.g_NOUGHT) (nomark _)) (dv 1) (de_ofL Z0.ok (dl_lst Z0.ok (da_star Z0.ok (dv 1) (da_cons Z0.ok (de_tup Z0.ok (da_star Z0.ok (de_gtup ([.int (0), .int (0)]) (by rfl) D.g_REST) (da_cons Z0.ok (dv 2) da_nil))) da_nil)))))))))

/-! made -/
theorem sc_made : FnScope ["coming", "first", "second", "both", "some"] ["coming", "first", "second", "both"] (defScope s_made) := ⟨rfl, rfl, rfl, by decide +kernel, rfl, by decide +kernel, by decide +kernel⟩
theorem ok_made (D : Dat K cl mg) : Ok P w K cl mg base 10 "made" ["coming", "first", "second", "both"] m_made := by
  refine ok_def D.d_made sc_made (fun _ _ _ _ _ _ us hl => match us, hl with | [_, _, _, _], _ => rfl) (fun f cdv A outer s H E hr => ?_)
  unfold M_made
  exact (ds_one (ds_ret (de_callX Z0.ok (ok_book_of D) hr (by decide) (ALen.cons ALen.nil) (da_cons Z0.ok (de_ofL Z0.ok (dl_lc (own := [("some", 4)]) Z0.ok rfl sc_made.nd (di_val Z0.ok (de_tup Z0.ok (da_cons Z0.ok (dv 3) (da_cons Z0.ok (dv 1) (da_cons Z0.ok (dv 2) (da_cons Z0.ok (de_ofL Z0.ok (dl_lst Z0.ok da_nil)) da_nil)))))) (blkOk_by (by show blkC ["coming", "first", "second", "both", "some"] (defScope s_made) _ _ = true; decide +kernel)) (fun _ _ _ _ _ => (dg_name sc_made.nd (i := 4) rfl (by first | exact Or.inl rfl | exact Or.inr rfl))) (fun _ _ _ _ _ => dts_nil) (fun _ _ _ _ _ => (de_callX Z0.ok (ok_filled D) hr (by decide) (ALen.cons ALen.nil) (da_cons Z0.ok (de_ofL Z0.ok (dl_lst Z0.ok (da_star Z0.ok (dv 0) (da_star Z0.ok (dv 4) da_nil)))) da_nil))))) da_nil))))

/-! coming_of -/
theorem sc_coming_of : FnScope ["a", "b"] ["a", "b"] (defScope s_coming_of) := ⟨rfl, rfl, rfl, by decide +kernel, rfl, by decide +kernel, by decide +kernel⟩
theorem ok_coming_of (D : Dat K cl mg) : Ok P w K cl mg base 1 "coming_of" ["a", "b"] m_coming_of := by
  refine ok_def D.d_coming_of sc_coming_of (fun _ _ _ _ _ _ us hl => match us, hl with | [_, _], _ => rfl) (fun f cdv A outer s H E hr => ?_)
  unfold M_coming_of
  exact (ds_one (ds_ret (de_ofL Z0.ok (dl_lst Z0.ok (da_cons Z0.ok (de_tup Z0.ok (da_cons Z0.ok (de_tup Z0.ok (da_cons Z0.ok de_int (da_cons Z0.ok de_int da_nil))) (da_cons Z0.ok (dv 0) da_nil))) (da_cons Z0.ok (de_tup Z0.ok (da_cons Z0.ok (de_tup Z0.ok (da_cons Z0.ok de_int (da_cons Z0.ok de_int da_nil))) (da_cons Z0.ok (dv 1) da_nil))) da_nil))))))

/-! times -/
theorem sc_times : FnScope ["one", "other"] ["one", "other"] (defScope s_times) := ⟨rfl, rfl, rfl, by decide +kernel, rfl, by decide +kernel, by decide +kernel⟩
theorem ok_times (D : Dat K cl mg) : Ok P w K cl mg base 3 "times" ["one", "other"] m_times := by
  refine ok_def D.d_times sc_times (fun _ _ _ _ _ _ us hl => match us, hl with | [_, _], _ => rfl) (fun f cdv A outer s H E hr => ?_)
  unfold M_times
  exact (ds_one (ds_ret (de_callX Z0.ok (ok_ratio D) hr (by decide) (ALen.cons (ALen.cons ALen.nil)) (da_cons Z0.ok (de_bin Z0.ok o_mul (de_ix Z0.ok (DF.Room.u1 hr) (dv 0) de_int (fun _ _ => rfl) (fun _ _ => rfl)) (de_ix Z0.ok (DF.Room.u1 hr) (dv 1) de_int (fun _ _ => rfl) (fun _ _ => rfl))) (da_cons Z0.ok (de_bin Z0.ok o_mul (de_ix Z0.ok (DF.Room.u1 hr) (dv 0) de_int (fun _ _ => rfl) (fun _ _ => rfl)) (de_ix Z0.ok (DF.Room.u1 hr) (dv 1) de_int (fun _ _ => rfl) (fun _ _ => rfl))) da_nil)))))

/-! handed_on -/
theorem sc_handed_on : FnScope ["a", "b", "m", "k", "p", "q", "first", "second"] ["a", "b", "m", "k", "p", "q"] (defScope s_handed_on) := ⟨rfl, rfl, rfl, by decide +kernel, rfl, by decide +kernel, by decide +kernel⟩
theorem ok_handed_on (D : Dat K cl mg) : Ok P w K cl mg base 11 "handed_on" ["a", "b", "m", "k", "p", "q"] m_handed_on := by
  refine ok_def D.d_handed_on sc_handed_on (fun _ _ _ _ _ _ us hl => match us, hl with | [_, _, _, _, _, _], _ => rfl) (fun f cdv A outer s H E hr => ?_)
  unfold M_handed_on
  exact (ds_cons Z0.ok (ds_expr (de_callX Z0.ok (ok_check_handed D) hr (by decide) (ALen.cons (ALen.cons (ALen.cons (ALen.cons (ALen.cons (ALen.cons ALen.nil)))))) (da_cons Z0.ok (dv 0) (da_cons Z0.ok (dv 1) (da_cons Z0.ok (dv 2) (da_cons Z0.ok (dv 3) (da_cons Z0.ok (dv 4) (da_cons Z0.ok (dv 5) da_nil)))))))) (ds_cons Z0.ok (ds_set (i := 6) sc_handed_on.nd rfl (by first | exact Or.inl rfl | exact Or.inr rfl) (dr_val (de_ofL Z0.ok (dl_lst Z0.ok (da_cons Z0.ok (de_tup Z0.ok (da_cons Z0.ok (de_tup Z0.ok (da_cons Z0.ok (de_neg Z0.ok de_int) (da_cons Z0.ok de_int da_nil))) (da_cons Z0.ok (de_callX Z0.ok (ok_times D) hr (by decide) (ALen.cons (ALen.cons ALen.nil)) (da_cons Z0.ok (dv 2) (da_cons Z0.ok (dv 4) da_nil))) da_nil))) (da_cons Z0.ok (de_tup Z0.ok (da_cons Z0.ok (de_tup Z0.ok (da_cons Z0.ok (de_neg Z0.ok de_int) (da_cons Z0.ok de_int da_nil))) (da_cons Z0.ok (de_callX Z0.ok (ok_times D) hr (by decide) (ALen.cons (ALen.cons ALen.nil)) (da_cons Z0.ok (dv 2) (da_cons Z0.ok (de_callX Z0.ok (ok_less D) hr (by decide) (ALen.cons (ALen.cons ALen.nil)) (da_cons Z0.ok (de_gtup ([.int (1), .int (1)]) (by rfl) D.g_ONE) (da_cons Z0.ok (dv 4) da_nil))) da_nil))) da_nil))) da_nil)))))) (ds_cons Z0.ok (ds_set (i := 7) sc_handed_on.nd rfl (by first | exact Or.inl rfl | exact Or.inr rfl) (dr_val (de_ofL Z0.ok (dl_lst Z0.ok (da_cons Z0.ok (de_tup Z0.ok (da_cons Z0.ok (de_tup Z0.ok (da_cons Z0.ok de_int (da_cons Z0.ok (de_neg Z0.ok de_int) da_nil))) (da_cons Z0.ok (de_callX Z0.ok (ok_times D) hr (by decide) (ALen.cons (ALen.cons ALen.nil)) (da_cons Z0.ok (dv 3) (da_cons Z0.ok (dv 5) da_nil))) da_nil))) (da_cons Z0.ok (de_tup Z0.ok (da_cons Z0.ok (de_tup Z0.ok (da_cons Z0.ok de_int (da_cons Z0.ok (de_neg Z0.ok de_int) da_nil))) (da_cons Z0.ok (de_callX Z0.ok (ok_times D) hr (by decide) (ALen.cons (ALen.cons ALen.nil)) (da_cons Z0.ok (dv 3) (da_cons Z0.ok (de_callX Z0.ok (ok_less D) hr (by decide) (ALen.cons (ALen.cons ALen.nil)) (da_cons Z0.ok (de_gtup ([.int (1), .int (1)]) (by rfl) D.g_ONE) (da_cons Z0.ok (dv 5) da_nil))) da_nil))) da_nil))) da_nil)))))) (ds_one (ds_ret (de_callX Z0.ok (ok_made D) hr (by decide) (ALen.cons (ALen.cons (ALen.cons (ALen.cons ALen.nil)))) (da_cons Z0.ok (de_callX Z0.ok (ok_coming_of D) hr (by decide) (ALen.cons (ALen.cons ALen.nil)) (da_cons Z0.ok (dv 0) (da_cons Z0.ok (dv 1) da_nil))) (da_cons Z0.ok (dv 6) (da_cons Z0.ok (dv 7) (da_cons Z0.ok (de_ofL Z0.ok (dl_lst Z0.ok (da_star Z0.ok (dv 6) (da_star Z0.ok (dv 7) da_nil)))) da_nil))))))))))

/-! _law_frac_sum -/
theorem sc__law_frac_sum : FnScope ["some", "found", "one"] ["some"] (defScope s__law_frac_sum) := ⟨rfl, rfl, rfl, by decide +kernel, rfl, by decide +kernel, by decide +kernel⟩
theorem ok__law_frac_sum (D : Dat K cl mg) : Ok P w K cl mg base 4 "_law_frac_sum" ["some"] m__law_frac_sum := by
  refine ok_def D.d__law_frac_sum sc__law_frac_sum (fun _ _ _ _ _ _ us hl => match us, hl with | [_], _ => rfl) (fun f cdv A outer s H E hr => ?_)
  unfold M__law_frac_sum
  exact (ds_cons Z0.ok (ds_set (i := 1) sc__law_frac_sum.nd rfl (by first | exact Or.inl rfl | exact Or.inr rfl) (dr_val (de_tup Z0.ok (da_cons Z0.ok de_int (da_cons Z0.ok de_int da_nil))))) (ds_cons Z0.ok (ds_for Z0.ok PassesOwn.never rfl (di_val Z0.ok (dv 0)) (dg_name sc__law_frac_sum.nd (i := 2) rfl (by first | exact Or.inl rfl | exact Or.inr rfl)) (ds_one (ds_set (i := 1) sc__law_frac_sum.nd rfl (by first | exact Or.inl rfl | exact Or.inr rfl) (dr_val (de_callX Z0.ok (ok__law_frac_plus D) hr (by decide) (ALen.cons (ALen.cons ALen.nil)) (da_cons Z0.ok (dv 1) (da_cons Z0.ok (dv 2) da_nil))))))) (ds_one (ds_ret (dv 1)))))

/-! _law_book_drift -/
theorem sc__law_book_drift : FnScope ["own", "region", "rows", "means", "place", "row"] ["own", "region"] (defScope s__law_book_drift) := ⟨rfl, rfl, rfl, by decide +kernel, rfl, by decide +kernel, by decide +kernel⟩
theorem ok__law_book_drift (D : Dat K cl mg) : Ok P w K cl mg base 5 "_law_book_drift" ["own", "region"] m__law_book_drift := by
  refine ok_def D.d__law_book_drift sc__law_book_drift (fun _ _ _ _ _ _ us hl => match us, hl with | [_, _], _ => rfl) (fun f cdv A outer s H E hr => ?_)
  unfold M__law_book_drift
  exact (ds_cons Z0.ok (ds_set (i := 2) sc__law_book_drift.nd rfl (by first | exact Or.inl rfl | exact Or.inr rfl) (dr_val (de_ix Z0.ok (DF.Room.u1 hr) (dv 0) (dv 1) (fun _ _ => rfl) (fun _ _ => rfl)))) (ds_cons Z0.ok (ds_setLc (own := [("place", 4)]) (i := 3) Z0.ok rfl sc__law_book_drift.nd rfl rfl (sw_true rfl rfl rfl (by decide +kernel)) (di_val Z0.ok (de_tup Z0.ok (da_cons Z0.ok de_int (da_cons Z0.ok de_int da_nil)))) (blkOk_by (by show blkC ["own", "region", "rows", "means", "place", "row"] (defScope s__law_book_drift) _ _ = true; decide +kernel)) (fun _ _ _ _ _ => (dg_name sc__law_book_drift.nd (i := 4) rfl (by first | exact Or.inl rfl | exact Or.inr rfl))) (fun _ _ _ _ _ => dts_nil) (fun _ _ _ _ _ => (de_callX Z0.ok (ok__law_frac_sum D) hr (by decide) (ALen.cons ALen.nil) (da_cons Z0.ok (de_ofL Z0.ok (dl_lc (own := [("row", 5)]) Z0.ok rfl sc__law_book_drift.nd (di_val Z0.ok (dv 2)) (blkOk_by (by rfl)) (fun _ _ _ _ _ => (dg_name sc__law_book_drift.nd (i := 5) rfl (by first | exact Or.inl rfl | exact Or.inr rfl))) (fun _ _ _ _ _ => dts_nil) (fun _ _ _ _ _ => (de_callX Z0.ok (ok__law_frac_times D) hr (by decide) (ALen.cons (ALen.cons ALen.nil)) (da_cons Z0.ok (de_tup Z0.ok (da_cons Z0.ok (de_ix Z0.ok (DF.Room.u1 hr) (dv 5) (dv 4) (fun _ _ => rfl) (fun _ _ => rfl)) (da_cons Z0.ok de_int da_nil))) (da_cons Z0.ok (de_ix Z0.ok (DF.Room.u1 hr) (dv 5) de_int (fun _ _ => rfl) (fun _ _ => rfl)) da_nil)))))) da_nil))) (by decide) (fun _ _ _ q => wr_val q)) (ds_one (ds_ret (de_tup Z0.ok (da_cons Z0.ok (de_ix Z0.ok (DF.Room.u1 hr) (dv 3) de_int (fun _ _ => rfl) (fun _ _ => rfl)) (da_cons Z0.ok (de_ix Z0.ok (DF.Room.u1 hr) (dv 3) de_int (fun _ _ => rfl) (fun _ _ => rfl)) da_nil)))))))

/-! _law_book_turns -/
theorem sc__law_book_turns : FnScope ["own", "mx", "my", "ax", "ay", "bx", "by", "first", "region"] ["own"] (defScope s__law_book_turns) := ⟨rfl, rfl, rfl, by decide +kernel, rfl, by decide +kernel, by decide +kernel⟩
theorem ok__law_book_turns (D : Dat K cl mg) : Ok P w K cl mg base 6 "_law_book_turns" ["own"] m__law_book_turns := by
  refine ok_def D.d__law_book_turns sc__law_book_turns (fun _ _ _ _ _ _ us hl => match us, hl with | [_], _ => rfl) (fun f cdv A outer s H E hr => ?_)
  unfold M__law_book_turns
  exact (ds_cons Z0.ok (ds_asg Z0.ok (de_ofL Z0.ok (dl_lc (own := [("region", 8)]) Z0.ok rfl sc__law_book_turns.nd (di_val Z0.ok (de_tup Z0.ok (da_cons Z0.ok de_str (da_cons Z0.ok de_str (da_cons Z0.ok de_str da_nil))))) (blkOk_by (by show blkC ["own", "mx", "my", "ax", "ay", "bx", "by", "first", "region"] (defScope s__law_book_turns) _ _ = true; decide +kernel)) (fun _ _ _ _ _ => (dg_name sc__law_book_turns.nd (i := 8) rfl (by first | exact Or.inl rfl | exact Or.inr rfl))) (fun _ _ _ _ _ => dts_nil) (fun _ _ _ _ _ => (de_callX Z0.ok (ok__law_book_drift D) hr (by decide) (ALen.cons (ALen.cons ALen.nil)) (da_cons Z0.ok (dv 0) (da_cons Z0.ok (dv 8) da_nil)))))) (dg_tup rfl (dgs_cons Z0.ok (dg_tup rfl (dgs_cons Z0.ok (dg_name sc__law_book_turns.nd (i := 1) rfl (by first | exact Or.inl rfl | exact Or.inr rfl)) (dgs_cons Z0.ok (dg_name sc__law_book_turns.nd (i := 2) rfl (by first | exact Or.inl rfl | exact Or.inr rfl)) dgs_nil))) (dgs_cons Z0.ok (dg_tup rfl (dgs_cons Z0.ok (dg_name sc__law_book_turns.nd (i := 3) rfl (by first | exact Or.inl rfl | exact Or.inr rfl)) (dgs_cons Z0.ok (dg_name sc__law_book_turns.nd (i := 4) rfl (by first | exact Or.inl rfl | exact Or.inr rfl)) dgs_nil))) (dgs_cons Z0.ok (dg_tup rfl (dgs_cons Z0.ok (dg_name sc__law_book_turns.nd (i := 5) rfl (by first | exact Or.inl rfl | exact Or.inr rfl)) (dgs_cons Z0.ok (dg_name sc__law_book_turns.nd (i := 6) rfl (by first | exact Or.inl rfl | exact Or.inr rfl)) dgs_nil))) dgs_nil))))) (ds_cons Z0.ok (ds_set (i := 7) sc__law_book_turns.nd rfl (by first | exact Or.inl rfl | exact Or.inr rfl) (dr_val (de_callX Z0.ok (ok__law_frac_less D) hr (by decide) (ALen.cons (ALen.cons ALen.nil)) (da_cons Z0.ok (de_callX Z0.ok (ok__law_frac_times D) hr (by decide) (ALen.cons (ALen.cons ALen.nil)) (da_cons Z0.ok (dv 4) (da_cons Z0.ok (dv 1) da_nil))) (da_cons Z0.ok (de_callX Z0.ok (ok__law_frac_times D) hr (by decide) (ALen.cons (ALen.cons ALen.nil)) (da_cons Z0.ok (dv 3) (da_cons Z0.ok (dv 2) da_nil))) da_nil))))) (ds_one (ds_ret (de_tup Z0.ok (da_cons Z0.ok (dv 7) (da_cons Z0.ok (de_callX Z0.ok (ok__law_frac_less D) hr (by decide) (ALen.cons (ALen.cons ALen.nil)) (da_cons Z0.ok (de_callX Z0.ok (ok__law_frac_times D) hr (by decide) (ALen.cons (ALen.cons ALen.nil)) (da_cons Z0.ok (dv 5) (da_cons Z0.ok (dv 2) da_nil))) (da_cons Z0.ok (de_callX Z0.ok (ok__law_frac_times D) hr (by decide) (ALen.cons (ALen.cons ALen.nil)) (da_cons Z0.ok (dv 6) (da_cons Z0.ok (dv 1) da_nil))) da_nil))) da_nil)))))))

/-! _law_book_sides -/
theorem sc__law_book_sides : FnScope ["own", "mx", "my", "found"] ["own"] (defScope s__law_book_sides) := ⟨rfl, rfl, rfl, by decide +kernel, rfl, by decide +kernel, by decide +kernel⟩
theorem ok__law_book_sides (D : Dat K cl mg) : Ok P w K cl mg base 6 "_law_book_sides" ["own"] m__law_book_sides := by
  refine ok_def D.d__law_book_sides sc__law_book_sides (fun _ _ _ _ _ _ us hl => match us, hl with | [_], _ => rfl) (fun f cdv A outer s H E hr => ?_)
  unfold M__law_book_sides
  exact (ds_cons Z0.ok (ds_asg Z0.ok (de_callX Z0.ok (ok__law_book_drift D) hr (by decide) (ALen.cons (ALen.cons ALen.nil)) (da_cons Z0.ok (dv 0) (da_cons Z0.ok de_str da_nil))) (dg_tup rfl (dgs_cons Z0.ok (dg_name sc__law_book_sides.nd (i := 1) rfl (by first | exact Or.inl rfl | exact Or.inr rfl)) (dgs_cons Z0.ok (dg_name sc__law_book_sides.nd (i := 2) rfl (by first | exact Or.inl rfl | exact Or.inr rfl)) dgs_nil)))) (ds_cons Z0.ok (ds_set (i := 3) sc__law_book_sides.nd rfl (by first | exact Or.inl rfl | exact Or.inr rfl) (dr_val (de_if Z0.ok (dt_w (dw_and Z0.ok (dt_cmp Z0.ok o_lt (de_ix Z0.ok (DF.Room.u1 hr) (dv 2) de_int (fun _ _ => rfl) (fun _ _ => rfl)) de_int (nomark _)) (dw_and1 (dt_cmp Z0.ok (o_ne (DF.Room.u64 hr)) (de_ix Z0.ok (DF.Room.u1 hr) (dv 1) de_int (fun _ _ => rfl) (fun _ _ => rfl)) de_int (nomark _))))) (de_ofL Z0.ok (dl_lst Z0.ok (da_cons Z0.ok de_str da_nil))) (de_ofL Z0.ok (dl_lst Z0.ok da_nil))))) (ds_one (ds_ret (de_callTy Z0.ok o_tuple rfl D.n_tuple (by rfl) (da_cons Z0.ok (de_bin Z0.ok o_add (dv 3) (de_if Z0.ok (dt_w (dw_and Z0.ok (dt_cmp Z0.ok o_lt (de_ix Z0.ok (DF.Room.u1 hr) (dv 1) de_int (fun _ _ => rfl) (fun _ _ => rfl)) de_int (nomark _)) (dw_and1 (dt_cmp Z0.ok (o_ne (DF.Room.u64 hr)) (de_ix Z0.ok (DF.Room.u1 hr) (dv 2) de_int (fun _ _ => rfl) (fun _ _ => rfl)) de_int (nomark _))))) (de_ofL Z0.ok (dl_lst Z0.ok (da_cons Z0.ok de_str da_nil))) (de_ofL Z0.ok (dl_lst Z0.ok da_nil)))) da_nil))))))

/-! _law_book_border -/
theorem sc__law_book_border : FnScope ["own", "mx", "my", "first", "second", "sides", "marks", "words", "word", "is_so"] ["own"] (defScope s__law_book_border) := ⟨rfl, rfl, rfl, by decide +kernel, rfl, by decide +kernel, by decide +kernel⟩
theorem ok__law_book_border (D : Dat K cl mg) : Ok P w K cl mg base 7 "_law_book_border" ["own"] m__law_book_border := by
  refine ok_def D.d__law_book_border sc__law_book_border (fun _ _ _ _ _ _ us hl => match us, hl with | [_], _ => rfl) (fun f cdv A outer s H E hr => ?_)
  unfold M__law_book_border
  exact (ds_cons Z0.ok (ds_asg Z0.ok (de_callX Z0.ok (ok__law_book_drift D) hr (by decide) (ALen.cons (ALen.cons ALen.nil)) (da_cons Z0.ok (dv 0) (da_cons Z0.ok de_str da_nil))) (dg_tup rfl (dgs_cons Z0.ok (dg_name sc__law_book_border.nd (i := 1) rfl (by first | exact Or.inl rfl | exact Or.inr rfl)) (dgs_cons Z0.ok (dg_name sc__law_book_border.nd (i := 2) rfl (by first | exact Or.inl rfl | exact Or.inr rfl)) dgs_nil)))) (ds_cons Z0.ok (ds_asg Z0.ok (de_callX Z0.ok (ok__law_book_turns D) hr (by decide) (ALen.cons ALen.nil) (da_cons Z0.ok (dv 0) da_nil)) (dg_tup rfl (dgs_cons Z0.ok (dg_name sc__law_book_border.nd (i := 3) rfl (by first | exact Or.inl rfl | exact Or.inr rfl)) (dgs_cons Z0.ok (dg_name sc__law_book_border.nd (i := 4) rfl (by first | exact Or.inl rfl | exact Or.inr rfl)) dgs_nil)))) (ds_cons Z0.ok (ds_set (i := 5) sc__law_book_border.nd rfl (by first | exact Or.inl rfl | exact Or.inr rfl) (dr_val (de_callX Z0.ok (ok__law_book_sides D) hr (by decide) (ALen.cons ALen.nil) (da_cons Z0.ok (dv 0) da_nil)))) (ds_cons Z0.ok (ds_set (i := 6) sc__law_book_border.nd rfl (by first | exact Or.inl rfl | exact Or.inr rfl) (dr_own (dl_lst Z0.ok (da_cons Z0.ok (de_tup Z0.ok (da_cons Z0.ok de_str (da_cons Z0.ok (de_cmp Z0.ok (o_eq (DF.Room.u64 hr)) (de_ix Z0.ok (DF.Room.u1 hr) (dv 1) de_int (fun _ _ => rfl) (fun _ _ => rfl)) de_int (nomark _)) da_nil))) (da_cons Z0.ok (de_tup Z0.ok (da_cons Z0.ok de_str (da_cons Z0.ok (de_cmp Z0.ok (o_eq (DF.Room.u64 hr)) (de_ix Z0.ok (DF.Room.u1 hr) (dv 2) de_int (fun _ _ => rfl) (fun _ _ => rfl)) de_int (nomark _)) da_nil))) (da_cons Z0.ok (de_tup Z0.ok (da_cons Z0.ok de_str (da_cons Z0.ok (de_cmp Z0.ok (o_eq (DF.Room.u64 hr)) (de_ix Z0.ok (DF.Room.u1 hr) (de_ix Z0.ok (DF.Room.u1 hr) (de_callX Z0.ok (ok__law_book_drift D) hr (by decide) (ALen.cons (ALen.cons ALen.nil)) (da_cons Z0.ok (dv 0) (da_cons Z0.ok de_str da_nil))) de_int (fun _ _ => rfl) (fun _ _ => rfl)) de_int (fun _ _ => rfl) (fun _ _ => rfl)) de_int (nomark _)) da_nil))) da_nil)))))) (ds_cons Z0.ok (ds_app Z0.ok 6 (pv 6) (de_tup Z0.ok (da_cons Z0.ok de_str (da_cons Z0.ok (de_cmp Z0.ok (o_eq (DF.Room.u64 hr)) (de_ix Z0.ok (DF.Room.u1 hr) (de_ix Z0.ok (DF.Room.u1 hr) (de_callX Z0.ok (ok__law_book_drift D) hr (by decide) (ALen.cons (ALen.cons ALen.nil)) (da_cons Z0.ok (dv 0) (da_cons Z0.ok de_str da_nil))) de_int (fun _ _ => rfl) (fun _ _ => rfl)) de_int (fun _ _ => rfl) (fun _ _ => rfl)) de_int (nomark _)) da_nil)))) (ds_cons Z0.ok (ds_app Z0.ok 6 (pv 6) (de_tup Z0.ok (da_cons Z0.ok de_str (da_cons Z0.ok (de_and Z0.ok (de_cmp Z0.ok (o_in (DF.Room.u65 hr)) de_str (dv 5) (by rfl)) (de_one (de_cmp Z0.ok (o_eq (DF.Room.u64 hr)) (de_ix Z0.ok (DF.Room.u1 hr) (dv 3) de_int (fun _ _ => rfl) (fun _ _ => rfl)) de_int (nomark _)))) da_nil)))) (ds_cons Z0.ok (ds_app Z0.ok 6 (pv 6) (de_tup Z0.ok (da_cons Z0.ok de_str (da_cons Z0.ok (de_and Z0.ok (de_cmp Z0.ok (o_in (DF.Room.u65 hr)) de_str (dv 5) (by rfl)) (de_one (de_cmp Z0.ok (o_eq (DF.Room.u64 hr)) (de_ix Z0.ok (DF.Room.u1 hr) (dv 4) de_int (fun _ _ => rfl) (fun _ _ => rfl)) de_int (nomark _)))) da_nil)))) (ds_cons Z0.ok (ds_frz Z0.ok 6 (ds_setLc (own := [("word", 8), ("is_so", 9)]) (i := 7) Z0.ok rfl sc__law_book_border.nd rfl rfl (sw_true rfl rfl rfl (by decide +kernel)) (di_val Z0.ok (dv 6)) (blkOk_by (by show blkC ["own", "mx", "my", "first", "second", "sides", "marks", "words", "word", "is_so"] (defScope s__law_book_border) _ _ = true; decide +kernel)) (fun _ _ _ _ _ => (dg_tup rfl (dgs_cons Z0.ok (dg_name sc__law_book_border.nd (i := 8) rfl (by first | exact Or.inl rfl | exact Or.inr rfl)) (dgs_cons Z0.ok (dg_name sc__law_book_border.nd (i := 9) rfl (by first | exact Or.inl rfl | exact Or.inr rfl)) dgs_nil)))) (fun _ _ _ _ _ => (dts_one (dt_val Z0.ok (dv 9)))) (fun _ _ _ _ _ => (dv 8)) (by decide) (fun _ _ _ q => wr_val q))) (ds_one (ds_ret (de_if Z0.ok (dt_cmp Z0.ok (o_ne (DF.Room.u64 hr)) (dv 7) (de_ofL Z0.ok (dl_lst Z0.ok da_nil)) (nomark _)) (de_ix Z0.ok (DF.Room.u1 hr) (dv 7) de_int (fun _ _ => rfl) (fun _ _ => rfl)) de_non)))))))))))

/-! _law_rows -/
theorem sc__law_rows : FnScope ["steps", "found", "rest", "row"] ["steps"] (defScope s__law_rows) := ⟨rfl, rfl, rfl, by decide +kernel, rfl, by decide +kernel, by decide +kernel⟩
theorem ok__law_rows (D : Dat K cl mg) : Ok P w K cl mg base 5 "_law_rows" ["steps"] m__law_rows := by
  refine ok_def D.d__law_rows sc__law_rows (fun _ _ _ _ _ _ us hl => match us, hl with | [_], _ => rfl) (fun f cdv A outer s H E hr => ?_)
  unfold M__law_rows
  exact (ds_cons Z0.ok (ds_setLc (own := [("row", 3)]) (i := 1) Z0.ok rfl sc__law_rows.nd rfl rfl (sw_true rfl rfl rfl (by decide +kernel)) (di_val Z0.ok (dv 0)) (blkOk_by (by show blkC ["steps", "found", "rest", "row"] (defScope s__law_rows) _ _ = true; decide +kernel)) (fun _ _ _ _ _ => (dg_name sc__law_rows.nd (i := 3) rfl (by first | exact Or.inl rfl | exact Or.inr rfl))) (fun _ _ _ _ _ => (dts_one (dt_cmp Z0.ok (o_ne (DF.Room.u64 hr)) (de_ix Z0.ok (DF.Room.u1 hr) (dv 3) de_int (fun _ _ => rfl) (fun _ _ => rfl)) (de_tup Z0.ok (da_cons Z0.ok de_int (da_cons Z0.ok de_int da_nil))) (nomark _)))) (fun _ _ _ _ _ => (dv 3)) (by decide) (fun _ _ _ q => wr_val q)) (ds_cons Z0.ok (ds_set (i := 2) sc__law_rows.nd rfl (by first | exact Or.inl rfl | exact Or.inr rfl) (dr_val (de_callX Z0.ok (ok__law_frac_less D) hr (by decide) (ALen.cons (ALen.cons ALen.nil)) (da_cons Z0.ok (de_tup Z0.ok (da_cons Z0.ok de_int (da_cons Z0.ok de_int da_nil))) (da_cons Z0.ok (de_callX Z0.ok (ok__law_frac_sum D) hr (by decide) (ALen.cons ALen.nil) (da_cons Z0.ok (de_ofL Z0.ok (dl_lc (own := [("row", 3)]) Z0.ok rfl sc__law_rows.nd (di_val Z0.ok (dv 1)) (blkOk_by (by show blkC ["steps", "found", "rest", "row"] (defScope s__law_rows) _ _ = true; decide +kernel)) (fun _ _ _ _ _ => (dg_name sc__law_rows.nd (i := 3) rfl (by first | exact Or.inl rfl | exact Or.inr rfl))) (fun _ _ _ _ _ => dts_nil) (fun _ _ _ _ _ => (de_ix Z0.ok (DF.Room.u1 hr) (dv 3) de_int (fun _ _ => rfl) (fun _ _ => rfl))))) da_nil)) da_nil))))) (ds_one (ds_ret (de_bin Z0.ok o_add (dv 1) (de_if Z0.ok (dt_cmp Z0.ok (o_ne (DF.Room.u64 hr)) (dv 2) (de_tup Z0.ok (da_cons Z0.ok de_int (da_cons Z0.ok de_int da_nil))) (nomark _)) (de_ofL Z0.ok (dl_lst Z0.ok (da_cons Z0.ok (de_tup Z0.ok (da_cons Z0.ok de_int (da_cons Z0.ok de_int (da_cons Z0.ok (dv 2) da_nil)))) da_nil))) (de_ofL Z0.ok (dl_lst Z0.ok da_nil))))))))

/-! _law_handed -/
theorem sc__law_handed : FnScope ["told", "a", "b", "m", "k", "p", "q", "come", "first", "second", "own"] ["told"] (defScope s__law_handed) := ⟨rfl, rfl, rfl, by decide +kernel, rfl, by decide +kernel, by decide +kernel⟩
theorem ok__law_handed (D : Dat K cl mg) : Ok P w K cl mg base 6 "_law_handed" ["told"] m__law_handed := by
  refine ok_def D.d__law_handed sc__law_handed (fun _ _ _ _ _ _ us hl => match us, hl with | [_], _ => rfl) (fun f cdv A outer s H E hr => ?_)
  unfold M__law_handed
  exact (ds_cons Z0.ok (ds_asg Z0.ok (dv 0) (dg_tup rfl (dgs_cons Z0.ok (dg_name sc__law_handed.nd (i := 1) rfl (by first | exact Or.inl rfl | exact Or.inr rfl)) (dgs_cons Z0.ok (dg_name sc__law_handed.nd (i := 2) rfl (by first | exact Or.inl rfl | exact Or.inr rfl)) (dgs_cons Z0.ok (dg_name sc__law_handed.nd (i := 3) rfl (by first | exact Or.inl rfl | exact Or.inr rfl)) (dgs_cons Z0.ok (dg_name sc__law_handed.nd (i := 4) rfl (by first | exact Or.inl rfl | exact Or.inr rfl)) (dgs_cons Z0.ok (dg_name sc__law_handed.nd (i := 5) rfl (by first | exact Or.inl rfl | exact Or.inr rfl)) (dgs_cons Z0.ok (dg_name sc__law_handed.nd (i := 6) rfl (by first | exact Or.inl rfl | exact Or.inr rfl)) dgs_nil)))))))) (ds_cons Z0.ok (ds_set (i := 7) sc__law_handed.nd rfl (by first | exact Or.inl rfl | exact Or.inr rfl) (dr_val (de_ofL Z0.ok (dl_lst Z0.ok (da_cons Z0.ok (de_tup Z0.ok (da_cons Z0.ok de_int (da_cons Z0.ok de_int (da_cons Z0.ok (dv 1) da_nil)))) (da_cons Z0.ok (de_tup Z0.ok (da_cons Z0.ok de_int (da_cons Z0.ok de_int (da_cons Z0.ok (dv 2) da_nil)))) da_nil)))))) (ds_cons Z0.ok (ds_set (i := 8) sc__law_handed.nd rfl (by first | exact Or.inl rfl | exact Or.inr rfl) (dr_val (de_ofL Z0.ok (dl_lst Z0.ok (da_cons Z0.ok (de_tup Z0.ok (da_cons Z0.ok (de_neg Z0.ok de_int) (da_cons Z0.ok de_int (da_cons Z0.ok (de_callX Z0.ok (ok__law_frac_times D) hr (by decide) (ALen.cons (ALen.cons ALen.nil)) (da_cons Z0.ok (dv 3) (da_cons Z0.ok (dv 5) da_nil))) da_nil)))) (da_cons Z0.ok (de_tup Z0.ok (da_cons Z0.ok (de_neg Z0.ok de_int) (da_cons Z0.ok de_int (da_cons Z0.ok (de_callX Z0.ok (ok__law_frac_times D) hr (by decide) (ALen.cons (ALen.cons ALen.nil)) (da_cons Z0.ok (dv 3) (da_cons Z0.ok (de_callX Z0.ok (ok__law_frac_less D) hr (by decide) (ALen.cons (ALen.cons ALen.nil)) (da_cons Z0.ok (de_tup Z0.ok (da_cons Z0.ok de_int (da_cons Z0.ok de_int da_nil))) (da_cons Z0.ok (dv 5) da_nil))) da_nil))) da_nil)))) da_nil)))))) (ds_cons Z0.ok (ds_set (i := 9) sc__law_handed.nd rfl (by first | exact Or.inl rfl | exact Or.inr rfl) (dr_val (de_ofL Z0.ok (dl_lst Z0.ok (da_cons Z0.ok (de_tup Z0.ok (da_cons Z0.ok de_int (da_cons Z0.ok (de_neg Z0.ok de_int) (da_cons Z0.ok (de_callX Z0.ok (ok__law_frac_times D) hr (by decide) (ALen.cons (ALen.cons ALen.nil)) (da_cons Z0.ok (dv 4) (da_cons Z0.ok (dv 6) da_nil))) da_nil)))) (da_cons Z0.ok (de_tup Z0.ok (da_cons Z0.ok de_int (da_cons Z0.ok (de_neg Z0.ok de_int) (da_cons Z0.ok (de_callX Z0.ok (ok__law_frac_times D) hr (by decide) (ALen.cons (ALen.cons ALen.nil)) (da_cons Z0.ok (dv 4) (da_cons Z0.ok (de_callX Z0.ok (ok__law_frac_less D) hr (by decide) (ALen.cons (ALen.cons ALen.nil)) (da_cons Z0.ok (de_tup Z0.ok (da_cons Z0.ok de_int (da_cons Z0.ok de_int da_nil))) (da_cons Z0.ok (dv 6) da_nil))) da_nil))) da_nil)))) da_nil)))))) (ds_cons Z0.ok (ds_set (i := 10) sc__law_handed.nd rfl (by first | exact Or.inl rfl | exact Or.inr rfl) (dr_own (dl_disp rfl (.cons pe_str (de_callX Z0.ok (ok__law_rows D) hr (by decide) (ALen.cons ALen.nil) (da_cons Z0.ok (de_bin Z0.ok o_add (de_bin Z0.ok o_add (dv 7) (dv 8)) (dv 9)) da_nil)) (.cons pe_str (de_callX Z0.ok (ok__law_rows D) hr (by decide) (ALen.cons ALen.nil) (da_cons Z0.ok (de_bin Z0.ok o_add (dv 7) (dv 8)) da_nil)) .nil))))) (ds_cons Z0.ok (ds_upd Z0.ok 10 (pv 10) (de_ofL Z0.ok (dl_disp rfl (.cons pe_str (de_callX Z0.ok (ok__law_rows D) hr (by decide) (ALen.cons ALen.nil) (da_cons Z0.ok (de_bin Z0.ok o_add (dv 7) (dv 9)) da_nil)) (.cons pe_str (de_callX Z0.ok (ok__law_rows D) hr (by decide) (ALen.cons ALen.nil) (da_cons Z0.ok (dv 7) da_nil)) .nil))))) (ds_one (ds_frz Z0.ok 10 (ds_ret (dv 10))))))))))

/-! _law_frac_over -/
theorem sc__law_frac_over : FnScope ["one", "other"] ["one", "other"] (defScope s__law_frac_over) := ⟨rfl, rfl, rfl, by decide +kernel, rfl, by decide +kernel, by decide +kernel⟩
theorem ok__law_frac_over (D : Dat K cl mg) : Ok P w K cl mg base 3 "_law_frac_over" ["one", "other"] m__law_frac_over := by
  refine ok_def D.d__law_frac_over sc__law_frac_over (fun _ _ _ _ _ _ us hl => match us, hl with | [_, _], _ => rfl) (fun f cdv A outer s H E hr => ?_)
  unfold M__law_frac_over
  exact (ds_one (ds_ret (de_callX Z0.ok (ok__law_frac D) hr (by decide) (ALen.cons (ALen.cons ALen.nil)) (da_cons Z0.ok (de_bin Z0.ok o_mul (de_ix Z0.ok (DF.Room.u1 hr) (dv 0) de_int (fun _ _ => rfl) (fun _ _ => rfl)) (de_ix Z0.ok (DF.Room.u1 hr) (dv 1) de_int (fun _ _ => rfl) (fun _ _ => rfl))) (da_cons Z0.ok (de_bin Z0.ok o_mul (de_ix Z0.ok (DF.Room.u1 hr) (dv 0) de_int (fun _ _ => rfl) (fun _ _ => rfl)) (de_ix Z0.ok (DF.Room.u1 hr) (dv 1) de_int (fun _ _ => rfl) (fun _ _ => rfl))) da_nil)))))

/-! _law_loads -/
theorem sc__law_loads : FnScope ["told", "a", "b", "m", "k", "p", "q", "left", "one", "other"] ["told"] (defScope s__law_loads) := ⟨rfl, rfl, rfl, by decide +kernel, rfl, by decide +kernel, by decide +kernel⟩
theorem ok__law_loads (D : Dat K cl mg) : Ok P w K cl mg base 4 "_law_loads" ["told"] m__law_loads := by
  refine ok_def D.d__law_loads sc__law_loads (fun _ _ _ _ _ _ us hl => match us, hl with | [_], _ => rfl) (fun f cdv A outer s H E hr => ?_)
  unfold M__law_loads
  exact (ds_cons Z0.ok (ds_asg Z0.ok (dv 0) (dg_tup rfl (dgs_cons Z0.ok (dg_name sc__law_loads.nd (i := 1) rfl (by first | exact Or.inl rfl | exact Or.inr rfl)) (dgs_cons Z0.ok (dg_name sc__law_loads.nd (i := 2) rfl (by first | exact Or.inl rfl | exact Or.inr rfl)) (dgs_cons Z0.ok (dg_name sc__law_loads.nd (i := 3) rfl (by first | exact Or.inl rfl | exact Or.inr rfl)) (dgs_cons Z0.ok (dg_name sc__law_loads.nd (i := 4) rfl (by first | exact Or.inl rfl | exact Or.inr rfl)) (dgs_cons Z0.ok (dg_name sc__law_loads.nd (i := 5) rfl (by first | exact Or.inl rfl | exact Or.inr rfl)) (dgs_cons Z0.ok (dg_name sc__law_loads.nd (i := 6) rfl (by first | exact Or.inl rfl | exact Or.inr rfl)) dgs_nil)))))))) (ds_cons Z0.ok (ds_set (i := 7) sc__law_loads.nd rfl (by first | exact Or.inl rfl | exact Or.inr rfl) (dr_val (de_callX Z0.ok (ok__law_frac_less D) hr (by decide) (ALen.cons (ALen.cons ALen.nil)) (da_cons Z0.ok (de_tup Z0.ok (da_cons Z0.ok de_int (da_cons Z0.ok de_int da_nil))) (da_cons Z0.ok (de_callX Z0.ok (ok__law_frac_times D) hr (by decide) (ALen.cons (ALen.cons ALen.nil)) (da_cons Z0.ok (dv 5) (da_cons Z0.ok (dv 6) da_nil))) da_nil))))) (ds_cons Z0.ok (ds_set (i := 8) sc__law_loads.nd rfl (by first | exact Or.inl rfl | exact Or.inr rfl) (dr_val (de_callX Z0.ok (ok__law_frac_over D) hr (by decide) (ALen.cons (ALen.cons ALen.nil)) (da_cons Z0.ok (de_callX Z0.ok (ok__law_frac_plus D) hr (by decide) (ALen.cons (ALen.cons ALen.nil)) (da_cons Z0.ok (dv 1) (da_cons Z0.ok (de_callX Z0.ok (ok__law_frac_times D) hr (by decide) (ALen.cons (ALen.cons ALen.nil)) (da_cons Z0.ok (dv 6) (da_cons Z0.ok (dv 2) da_nil))) da_nil))) (da_cons Z0.ok (dv 7) da_nil))))) (ds_cons Z0.ok (ds_set (i := 9) sc__law_loads.nd rfl (by first | exact Or.inl rfl | exact Or.inr rfl) (dr_val (de_callX Z0.ok (ok__law_frac_over D) hr (by decide) (ALen.cons (ALen.cons ALen.nil)) (da_cons Z0.ok (de_callX Z0.ok (ok__law_frac_plus D) hr (by decide) (ALen.cons (ALen.cons ALen.nil)) (da_cons Z0.ok (dv 2) (da_cons Z0.ok (de_callX Z0.ok (ok__law_frac_times D) hr (by decide) (ALen.cons (ALen.cons ALen.nil)) (da_cons Z0.ok (dv 5) (da_cons Z0.ok (dv 1) da_nil))) da_nil))) (da_cons Z0.ok (dv 7) da_nil))))) (ds_one (ds_ret (de_tup Z0.ok (da_cons Z0.ok (de_callX Z0.ok (ok__law_frac_over D) hr (by decide) (ALen.cons (ALen.cons ALen.nil)) (da_cons Z0.ok (dv 8) (da_cons Z0.ok (dv 3) da_nil))) (da_cons Z0.ok (de_callX Z0.ok (ok__law_frac_over D) hr (by decide) (ALen.cons (ALen.cons ALen.nil)) (da_cons Z0.ok (dv 9) (da_cons Z0.ok (dv 4) da_nil))) da_nil)))))))))

/-! _law_book_regions -/
theorem sc__law_book_regions : FnScope [] [] (defScope s__law_book_regions) := ⟨rfl, rfl, rfl, by decide +kernel, rfl, by decide +kernel, by decide +kernel⟩
theorem ok__law_book_regions (D : Dat K cl mg) : Ok P w K cl mg base 1 "_law_book_regions" [] m__law_book_regions := by
  refine ok_def D.d__law_book_regions sc__law_book_regions (fun _ _ _ _ _ _ us hl => match us, hl with | [], _ => rfl) (fun f cdv A outer s H E hr => ?_)
  unfold M__law_book_regions
  exact (ds_one (ds_ret (de_tup Z0.ok (da_cons Z0.ok de_str (da_cons Z0.ok de_str (da_cons Z0.ok de_str (da_cons Z0.ok de_str da_nil)))))))

/-! _law_frac_text -/
theorem sc__law_frac_text : FnScope ["one"] ["one"] (defScope s__law_frac_text) := ⟨rfl, rfl, rfl, by decide +kernel, rfl, by decide +kernel, by decide +kernel⟩
theorem ok__law_frac_text (D : Dat K cl mg) : Ok P w K cl mg base 1 "_law_frac_text" ["one"] m__law_frac_text := by
  refine ok_def D.d__law_frac_text sc__law_frac_text (fun _ _ _ _ _ _ us hl => match us, hl with | [_], _ => rfl) (fun f cdv A outer s H E hr => ?_)
  unfold M__law_frac_text
  exact (ds_one (ds_ret (de_if Z0.ok (dt_cmp Z0.ok (o_eq (DF.Room.u64 hr)) (de_ix Z0.ok (DF.Room.u1 hr) (dv 0) de_int (fun _ _ => rfl) (fun _ _ => rfl)) de_int (nomark _)) (de_callTy Z0.ok o_str rfl D.n_str (by rfl) (da_cons Z0.ok (de_callTy Z0.ok o_int rfl D.n_int (by rfl) (da_cons Z0.ok (de_ix Z0.ok (DF.Room.u1 hr) (dv 0) de_int (fun _ _ => rfl) (fun _ _ => rfl)) da_nil)) da_nil)) (de_bin Z0.ok o_add (de_bin Z0.ok o_add (de_callTy Z0.ok o_str rfl D.n_str (by rfl) (da_cons Z0.ok (de_callTy Z0.ok o_int rfl D.n_int (by rfl) (da_cons Z0.ok (de_ix Z0.ok (DF.Room.u1 hr) (dv 0) de_int (fun _ _ => rfl) (fun _ _ => rfl)) da_nil)) da_nil)) de_str) (de_callTy Z0.ok o_str rfl D.n_str (by rfl) (da_cons Z0.ok (de_callTy Z0.ok o_int rfl D.n_int (by rfl) (da_cons Z0.ok (de_ix Z0.ok (DF.Room.u1 hr) (dv 0) de_int (fun _ _ => rfl) (fun _ _ => rfl)) da_nil)) da_nil))))))

/-! _law_book_text -/
theorem sc__law_book_text : FnScope ["own", "rows", "region", "i", "j", "chance"] ["own"] (defScope s__law_book_text) := ⟨rfl, rfl, rfl, by decide +kernel, rfl, by decide +kernel, by decide +kernel⟩
theorem ok__law_book_text (D : Dat K cl mg) : Ok P w K cl mg base 2 "_law_book_text" ["own"] m__law_book_text := by
  refine ok_def D.d__law_book_text sc__law_book_text (fun _ _ _ _ _ _ us hl => match us, hl with | [_], _ => rfl) (fun f cdv A outer s H E hr => ?_)
  unfold M__law_book_text
  exact (ds_cons Z0.ok (ds_set (i := 1) sc__law_book_text.nd rfl (by first | exact Or.inl rfl | exact Or.inr rfl) (dr_own (dl_lst Z0.ok (da_cons Z0.ok de_str da_nil)))) (ds_cons Z0.ok (ds_for Z0.ok PassesOwn.never rfl (di_val Z0.ok (de_callX0 Z0.ok (ok__law_book_regions D) hr (by decide))) (dg_name sc__law_book_text.nd (i := 2) rfl (by first | exact Or.inl rfl | exact Or.inr rfl)) (ds_cons Z0.ok (ds_app Z0.ok 1 (pv 1) (dv 2)) (ds_one (ds_ext Z0.ok 1 (pv 1) (de_ofL Z0.ok (dl_lc (own := [("i", 3), ("j", 4), ("chance", 5)]) Z0.ok rfl sc__law_book_text.nd (di_val Z0.ok (de_ix Z0.ok (DF.Room.u1 hr) (dv 0) (dv 2) (fun _ _ => rfl) (fun _ _ => rfl))) (blkOk_by (by show blkC ["own", "rows", "region", "i", "j", "chance"] (defScope s__law_book_text) _ _ = true; decide +kernel)) (fun _ _ _ _ _ => (dg_tup rfl (dgs_cons Z0.ok (dg_name sc__law_book_text.nd (i := 3) rfl (by first | exact Or.inl rfl | exact Or.inr rfl)) (dgs_cons Z0.ok (dg_name sc__law_book_text.nd (i := 4) rfl (by first | exact Or.inl rfl | exact Or.inr rfl)) (dgs_cons Z0.ok (dg_name sc__law_book_text.nd (i := 5) rfl (by first | exact Or.inl rfl | exact Or.inr rfl)) dgs_nil))))) (fun _ _ _ _ _ => dts_nil) (fun _ _ _ _ _ => (de_join Z0.ok de_str (de_ofL Z0.ok (dl_lst Z0.ok (da_cons Z0.ok de_str (da_cons Z0.ok (de_callTy Z0.ok o_str rfl D.n_str (by rfl) (da_cons Z0.ok (dv 3) da_nil)) (da_cons Z0.ok (de_callTy Z0.ok o_str rfl D.n_str (by rfl) (da_cons Z0.ok (dv 4) da_nil)) (da_cons Z0.ok (de_callX Z0.ok (ok__law_frac_text D) hr (by decide) (ALen.cons ALen.nil) (da_cons Z0.ok (dv 5) da_nil)) da_nil)))))))))))))) (ds_one (ds_frz Z0.ok 1 (ds_ret (de_join Z0.ok de_str (dv 1)))))))

/-! over -/
theorem sc_over : FnScope ["one", "other"] ["one", "other"] (defScope s_over) := ⟨rfl, rfl, rfl, by decide +kernel, rfl, by decide +kernel, by decide +kernel⟩
theorem ok_over (D : Dat K cl mg) : Ok P w K cl mg base 3 "over" ["one", "other"] m_over := by
  refine ok_def D.d_over sc_over (fun _ _ _ _ _ _ us hl => match us, hl with | [_, _], _ => rfl) (fun f cdv A outer s H E hr => ?_)
  unfold M_over
  exact (ds_one (ds_ret (de_callX Z0.ok (ok_ratio D) hr (by decide) (ALen.cons (ALen.cons ALen.nil)) (da_cons Z0.ok (de_bin Z0.ok o_mul (de_ix Z0.ok (DF.Room.u1 hr) (dv 0) de_int (fun _ _ => rfl) (fun _ _ => rfl)) (de_ix Z0.ok (DF.Room.u1 hr) (dv 1) de_int (fun _ _ => rfl) (fun _ _ => rfl))) (da_cons Z0.ok (de_bin Z0.ok o_mul (de_ix Z0.ok (DF.Room.u1 hr) (dv 0) de_int (fun _ _ => rfl) (fun _ _ => rfl)) (de_ix Z0.ok (DF.Room.u1 hr) (dv 1) de_int (fun _ _ => rfl) (fun _ _ => rfl))) da_nil)))))

/-! loads -/
theorem sc_loads : FnScope ["a", "b", "m", "k", "p", "q", "round_less", "one", "other"] ["a", "b", "m", "k", "p", "q"] (defScope s_loads) := ⟨rfl, rfl, rfl, by decide +kernel, rfl, by decide +kernel, by decide +kernel⟩
theorem ok_loads (D : Dat K cl mg) : Ok P w K cl mg base 7 "loads" ["a", "b", "m", "k", "p", "q"] m_loads := by
  refine ok_def D.d_loads sc_loads (fun _ _ _ _ _ _ us hl => match us, hl with | [_, _, _, _, _, _], _ => rfl) (fun f cdv A outer s H E hr => ?_)
  unfold M_loads
  exact (ds_cons Z0.ok (ds_expr (de_callX Z0.ok (ok_check_handed D) hr (by decide) (ALen.cons (ALen.cons (ALen.cons (ALen.cons (ALen.cons (ALen.cons ALen.nil)))))) (da_cons Z0.ok (dv 0) (da_cons Z0.ok (dv 1) (da_cons Z0.ok (dv 2) (da_cons Z0.ok (dv 3) (da_cons Z0.ok (dv 4) (da_cons Z0.ok (dv 5) da_nil)))))))) (ds_cons Z0.ok (ds_set (i := 6) sc_loads.nd rfl (by first | exact Or.inl rfl | exact Or.inr rfl) (dr_val (de_callX Z0.ok (ok_less D) hr (by decide) (ALen.cons (ALen.cons ALen.nil)) (da_cons Z0.ok (de_gtup ([.int (1), .int (1)]) (by rfl) D.g_ONE) (da_cons Z0.ok (de_callX Z0.ok (ok_times D) hr (by decide) (ALen.cons (ALen.cons ALen.nil)) (da_cons Z0.ok (dv 4) (da_cons Z0.ok (dv 5) da_nil))) da_nil))))) (ds_cons Z0.ok (ds_par (i := 7) (j := 8) Z0.ok rfl rfl sc_loads.nd rfl rfl (by decide) rfl rfl (dr_val (de_callX Z0.ok (ok_over D) hr (by decide) (ALen.cons (ALen.cons ALen.nil)) (da_cons Z0.ok (de_callX Z0.ok (ok_plus D) hr (by decide) (ALen.cons (ALen.cons ALen.nil)) (da_cons Z0.ok (dv 0) (da_cons Z0.ok (de_callX Z0.ok (ok_times D) hr (by decide) (ALen.cons (ALen.cons ALen.nil)) (da_cons Z0.ok (dv 5) (da_cons Z0.ok (dv 1) da_nil))) da_nil))) (da_cons Z0.ok (dv 6) da_nil)))) (dr_val (de_callX Z0.ok (ok_over D) hr (by decide) (ALen.cons (ALen.cons ALen.nil)) (da_cons Z0.ok (de_callX Z0.ok (ok_plus D) hr (by decide) (ALen.cons (ALen.cons ALen.nil)) (da_cons Z0.ok (dv 1) (da_cons Z0.ok (de_callX Z0.ok (ok_times D) hr (by decide) (ALen.cons (ALen.cons ALen.nil)) (da_cons Z0.ok (dv 4) (da_cons Z0.ok (dv 0) da_nil))) da_nil))) (da_cons Z0.ok (dv 6) da_nil)))) (by rfl)) (ds_one (ds_ret (de_tup Z0.ok (da_cons Z0.ok (de_callX Z0.ok (ok_over D) hr (by decide) (ALen.cons (ALen.cons ALen.nil)) (da_cons Z0.ok (dv 7) (da_cons Z0.ok (dv 2) da_nil))) (da_cons Z0.ok (de_callX Z0.ok (ok_over D) hr (by decide) (ALen.cons (ALen.cons ALen.nil)) (da_cons Z0.ok (dv 8) (da_cons Z0.ok (dv 3) da_nil))) da_nil))))))))

/-! _law_frac_product -/
theorem sc__law_frac_product : FnScope ["some", "found", "one"] ["some"] (defScope s__law_frac_product) := ⟨rfl, rfl, rfl, by decide +kernel, rfl, by decide +kernel, by decide +kernel⟩
theorem ok__law_frac_product (D : Dat K cl mg) : Ok P w K cl mg base 4 "_law_frac_product" ["some"] m__law_frac_product := by
  refine ok_def D.d__law_frac_product sc__law_frac_product (fun _ _ _ _ _ _ us hl => match us, hl with | [_], _ => rfl) (fun f cdv A outer s H E hr => ?_)
  unfold M__law_frac_product
  exact (ds_cons Z0.ok (ds_set (i := 1) sc__law_frac_product.nd rfl (by first | exact Or.inl rfl | exact Or.inr rfl) (dr_val (de_tup Z0.ok (da_cons Z0.ok de_int (da_cons Z0.ok de_int da_nil))))) (ds_cons Z0.ok (ds_for Z0.ok PassesOwn.never rfl (di_val Z0.ok (dv 0)) (dg_name sc__law_frac_product.nd (i := 2) rfl (by first | exact Or.inl rfl | exact Or.inr rfl)) (ds_one (ds_set (i := 1) sc__law_frac_product.nd rfl (by first | exact Or.inl rfl | exact Or.inr rfl) (dr_val (de_callX Z0.ok (ok__law_frac_times D) hr (by decide) (ALen.cons (ALen.cons ALen.nil)) (da_cons Z0.ok (dv 1) (da_cons Z0.ok (dv 2) da_nil))))))) (ds_one (ds_ret (dv 1)))))

/-! _law_are_turns_right -/
theorem sc__law_are_turns_right : FnScope ["told", "due", "a", "b", "m", "k", "p", "q", "by", "load"] ["told", "due"] (defScope s__law_are_turns_right) := ⟨rfl, rfl, rfl, by decide +kernel, rfl, by decide +kernel, by decide +kernel⟩
theorem ok__law_are_turns_right (D : Dat K cl mg) : Ok P w K cl mg base 5 "_law_are_turns_right" ["told", "due"] m__law_are_turns_right := by
  refine ok_def D.d__law_are_turns_right sc__law_are_turns_right (fun _ _ _ _ _ _ us hl => match us, hl with | [_, _], _ => rfl) (fun f cdv A outer s H E hr => ?_)
  unfold M__law_are_turns_right
  exact (ds_cons Z0.ok (ds_asg Z0.ok (dv 0) (dg_tup rfl (dgs_cons Z0.ok (dg_name sc__law_are_turns_right.nd (i := 2) rfl (by first | exact Or.inl rfl | exact Or.inr rfl)) (dgs_cons Z0.ok (dg_name sc__law_are_turns_right.nd (i := 3) rfl (by first | exact Or.inl rfl | exact Or.inr rfl)) (dgs_cons Z0.ok (dg_name sc__law_are_turns_right.nd (i := 4) rfl (by first | exact Or.inl rfl | exact Or.inr rfl)) (dgs_cons Z0.ok (dg_name sc__law_are_turns_right.nd (i := 5) rfl (by first | exact Or.inl rfl | exact Or.inr rfl)) (dgs_cons Z0.ok (dg_name sc__law_are_turns_right.nd (i := 6) rfl (by first | exact Or.inl rfl | exact Or.inr rfl)) (dgs_cons Z0.ok (dg_name sc__law_are_turns_right.nd (i := 7) rfl (by first | exact Or.inl rfl | exact Or.inr rfl)) dgs_nil)))))))) (ds_cons Z0.ok (ds_set (i := 8) sc__law_are_turns_right.nd rfl (by first | exact Or.inl rfl | exact Or.inr rfl) (dr_val (de_callX Z0.ok (ok__law_frac_product D) hr (by decide) (ALen.cons ALen.nil) (da_cons Z0.ok (de_ofL Z0.ok (dl_lst Z0.ok (da_cons Z0.ok (dv 4) (da_cons Z0.ok (dv 5) (da_cons Z0.ok (de_callX Z0.ok (ok__law_frac_less D) hr (by decide) (ALen.cons (ALen.cons ALen.nil)) (da_cons Z0.ok (de_tup Z0.ok (da_cons Z0.ok de_int (da_cons Z0.ok de_int da_nil))) (da_cons Z0.ok (de_callX Z0.ok (ok__law_frac_times D) hr (by decide) (ALen.cons (ALen.cons ALen.nil)) (da_cons Z0.ok (dv 6) (da_cons Z0.ok (dv 7) da_nil))) da_nil))) da_nil))))) da_nil)))) (ds_one (ds_ret (de_cmp Z0.ok (o_eq (DF.Room.u64 hr)) (de_callTy Z0.ok o_tuple rfl D.n_tuple (by rfl) (da_cons Z0.ok (de_ofL Z0.ok (dl_lc (own := [("load", 9)]) Z0.ok rfl sc__law_are_turns_right.nd (di_val Z0.ok (de_callX Z0.ok (ok__law_loads D) hr (by decide) (ALen.cons ALen.nil) (da_cons Z0.ok (dv 0) da_nil))) (blkOk_by (by show blkC ["told", "due", "a", "b", "m", "k", "p", "q", "by", "load"] (defScope s__law_are_turns_right) _ _ = true; decide +kernel)) (fun _ _ _ _ _ => (dg_name sc__law_are_turns_right.nd (i := 9) rfl (by first | exact Or.inl rfl | exact Or.inr rfl))) (fun _ _ _ _ _ => dts_nil) (fun _ _ _ _ _ => (de_callX Z0.ok (ok__law_frac_times D) hr (by decide) (ALen.cons (ALen.cons ALen.nil)) (da_cons Z0.ok (dv 8) (da_cons Z0.ok (de_callX Z0.ok (ok__law_frac_less D) hr (by decide) (ALen.cons (ALen.cons ALen.nil)) (da_cons Z0.ok (dv 9) (da_cons Z0.ok (de_tup Z0.ok (da_cons Z0.ok de_int (da_cons Z0.ok de_int da_nil))) da_nil))) da_nil)))))) da_nil)) (dv 1) (nomark _))))))

/-! is_string -/
theorem sc_is_string : FnScope ["value", "some"] ["value", "some"] (defScope s_is_string) := ⟨rfl, rfl, rfl, by decide +kernel, rfl, by decide +kernel, by decide +kernel⟩
theorem ok_is_string (D : Dat K cl mg) : Ok P w K cl mg base 1 "is_string" ["value", "some"] m_is_string := by
  refine ok_def D.d_is_string sc_is_string (fun _ _ _ _ _ _ us hl => match us, hl with | [_, _], _ => rfl) (fun f cdv A outer s H E hr => ?_)
  unfold M_is_string
  exact (ds_one (ds_ret (de_and Z0.ok (de_callB Z0.ok o_isi rfl D.n_isinstance (by rfl) (da_cons Z0.ok (dv 0) (da_cons Z0.ok (de_ty (n := "str") rfl D.n_str (by rfl)) da_nil))) (de_one (de_cmp Z0.ok (o_in (DF.Room.u65 hr)) (dv 0) (dv 1) (by rfl))))))

/-! check_region -/
theorem sc_check_region : FnScope ["region"] ["region"] (defScope s_check_region) := ⟨rfl, rfl, rfl, by decide +kernel, rfl, by decide +kernel, by decide +kernel⟩
theorem ok_check_region (D : Dat K cl mg) : Ok P w K cl mg base 2 "check_region" ["region"] m_check_region := by
  refine ok_def D.d_check_region sc_check_region (fun _ _ _ _ _ _ us hl => match us, hl with | [_], _ => rfl) (fun f cdv A outer s H E hr => ?_)
  unfold M_check_region
  exact (ds_one (ds_if Z0.ok (dt_not Z0.ok (dt_val Z0.ok (de_callX Z0.ok (ok_is_string D) hr (by decide) (ALen.cons (ALen.cons ALen.nil)) (da_cons Z0.ok (dv 0) (da_cons Z0.ok (de_gtup ([.str "inside", .str "first", .str "second", .str "none"]) (by rfl) D.g_REGIONS) da_nil))))) (ds_one ds_never) ds_nil))

/-! region_steps -/
theorem sc_region_steps : FnScope ["book", "region"] ["book", "region"] (defScope s_region_steps) := ⟨rfl, rfl, rfl, by decide +kernel, rfl, by decide +kernel, by decide +kernel⟩
theorem ok_region_steps (D : Dat K cl mg) : Ok P w K cl mg base 1 "region_steps" ["book", "region"] m_region_steps := by
  refine ok_def D.d_region_steps sc_region_steps (fun _ _ _ _ _ _ us hl => match us, hl with | [_, _], _ => rfl) (fun f cdv A outer s H E hr => ?_)
  unfold M_region_steps
  exact (ds_one (ds_ret (de_ix Z0.ok (DF.Room.u1 hr) (de_slotX Z0.ok D.sc_Book D.sl_Book_own_regions (dv 0)) (de_tupidxX Z0.ok D.g_REGIONS (dv 1)) (fun _ _ => rfl) (fun _ _ => rfl))))

/-! steps_of -/
theorem sc_steps_of : FnScope ["book", "region"] ["book", "region"] (defScope s_steps_of) := ⟨rfl, rfl, rfl, by decide +kernel, rfl, by decide +kernel, by decide +kernel⟩
theorem ok_steps_of (D : Dat K cl mg) : Ok P w K cl mg base 3 "steps_of" ["book", "region"] m_steps_of := by
  refine ok_def D.d_steps_of sc_steps_of (fun _ _ _ _ _ _ us hl => match us, hl with | [_, _], _ => rfl) (fun f cdv A outer s H E hr => ?_)
  unfold M_steps_of
  exact (ds_cons Z0.ok (ds_expr (de_callX Z0.ok (ok_check_region D) hr (by decide) (ALen.cons ALen.nil) (da_cons Z0.ok (dv 1) da_nil))) (ds_one (ds_ret (de_callX Z0.ok (ok_region_steps D) hr (by decide) (ALen.cons (ALen.cons ALen.nil)) (da_cons Z0.ok (dv 0) (da_cons Z0.ok (dv 1) da_nil))))))

/-! drift -/
theorem sc_drift : FnScope ["book", "region", "steps", "mean_i", "i", "j", "chance"] ["book", "region"] (defScope s_drift) := ⟨rfl, rfl, rfl, by decide +kernel, rfl, by decide +kernel, by decide +kernel⟩
theorem ok_drift (D : Dat K cl mg) : Ok P w K cl mg base 5 "drift" ["book", "region"] m_drift := by
  refine ok_def D.d_drift sc_drift (fun _ _ _ _ _ _ us hl => match us, hl with | [_, _], _ => rfl) (fun f cdv A outer s H E hr => ?_)
  unfold M_drift
  exact (ds_cons Z0.ok (ds_set (i := 2) sc_drift.nd rfl (by first | exact Or.inl rfl | exact Or.inr rfl) (dr_val (de_callX Z0.ok (ok_steps_of D) hr (by decide) (ALen.cons (ALen.cons ALen.nil)) (da_cons Z0.ok (dv 0) (da_cons Z0.ok (dv 1) da_nil))))) (ds_cons Z0.ok (ds_set (i := 3) sc_drift.nd rfl (by first | exact Or.inl rfl | exact Or.inr rfl) (dr_val (de_callX Z0.ok (ok_total D) hr (by decide) (ALen.cons ALen.nil) (da_cons Z0.ok (de_ofL Z0.ok (dl_lc (own := [("i", 4), ("j", 5), ("chance", 6)]) Z0.ok rfl sc_drift.nd (di_val Z0.ok (dv 2)) (blkOk_by (by show blkC ["book", "region", "steps", "mean_i", "i", "j", "chance"] (defScope s_drift) _ _ = true; decide +kernel)) (fun _ _ _ _ _ => (dg_tup rfl (dgs_cons Z0.ok (dg_name sc_drift.nd (i := 4) rfl (by first | exact Or.inl rfl | exact Or.inr rfl)) (dgs_cons Z0.ok (dg_name sc_drift.nd (i := 5) rfl (by first | exact Or.inl rfl | exact Or.inr rfl)) (dgs_cons Z0.ok (dg_name sc_drift.nd (i := 6) rfl (by first | exact Or.inl rfl | exact Or.inr rfl)) dgs_nil))))) (fun _ _ _ _ _ => dts_nil) (fun _ _ _ _ _ => (de_callX Z0.ok (ok_times D) hr (by decide) (ALen.cons (ALen.cons ALen.nil)) (da_cons Z0.ok (de_tup Z0.ok (da_cons Z0.ok (dv 4) (da_cons Z0.ok de_int da_nil))) (da_cons Z0.ok (dv 6) da_nil)))))) da_nil)))) (ds_one (ds_ret (de_tup Z0.ok (da_cons Z0.ok (dv 3) (da_cons Z0.ok (de_callX Z0.ok (ok_total D) hr (by decide) (ALen.cons ALen.nil) (da_cons Z0.ok (de_ofL Z0.ok (dl_lc (own := [("i", 4), ("j", 5), ("chance", 6)]) Z0.ok rfl sc_drift.nd (di_val Z0.ok (dv 2)) (blkOk_by (by show blkC ["book", "region", "steps", "mean_i", "i", "j", "chance"] (defScope s_drift) _ _ = true; decide +kernel)) (fun _ _ _ _ _ => (dg_tup rfl (dgs_cons Z0.ok (dg_name sc_drift.nd (i := 4) rfl (by first | exact Or.inl rfl | exact Or.inr rfl)) (dgs_cons Z0.ok (dg_name sc_drift.nd (i := 5) rfl (by first | exact Or.inl rfl | exact Or.inr rfl)) (dgs_cons Z0.ok (dg_name sc_drift.nd (i := 6) rfl (by first | exact Or.inl rfl | exact Or.inr rfl)) dgs_nil))))) (fun _ _ _ _ _ => dts_nil) (fun _ _ _ _ _ => (de_callX Z0.ok (ok_times D) hr (by decide) (ALen.cons (ALen.cons ALen.nil)) (da_cons Z0.ok (de_tup Z0.ok (da_cons Z0.ok (dv 5) (da_cons Z0.ok de_int da_nil))) (da_cons Z0.ok (dv 6) da_nil)))))) da_nil)) da_nil)))))))

/-! asked_sides -/
theorem sc_asked_sides : FnScope ["book", "mx", "my", "is_first", "is_second", "side", "is_asked"] ["book"] (defScope s_asked_sides) := ⟨rfl, rfl, rfl, by decide +kernel, rfl, by decide +kernel, by decide +kernel⟩
theorem ok_asked_sides (D : Dat K cl mg) : Ok P w K cl mg base 6 "asked_sides" ["book"] m_asked_sides := by
  refine ok_def D.d_asked_sides sc_asked_sides (fun _ _ _ _ _ _ us hl => match us, hl with | [_], _ => rfl) (fun f cdv A outer s H E hr => ?_)
  unfold M_asked_sides
  exact (ds_cons Z0.ok (ds_asg Z0.ok (de_callX Z0.ok (ok_drift D) hr (by decide) (ALen.cons (ALen.cons ALen.nil)) (da_cons Z0.ok (dv 0) (da_cons Z0.ok (de_gstr D.g_INSIDE) da_nil))) (dg_tup rfl (dgs_cons Z0.ok (dg_name sc_asked_sides.nd (i := 1) rfl (by first | exact Or.inl rfl | exact Or.inr rfl)) (dgs_cons Z0.ok (dg_name sc_asked_sides.nd (i := 2) rfl (by first | exact Or.inl rfl | exact Or.inr rfl)) dgs_nil)))) (ds_cons Z0.ok (ds_par (i := 3) (j := 4) Z0.ok rfl rfl sc_asked_sides.nd rfl rfl (by decide) rfl rfl (dr_val (de_cmp Z0.ok o_lt (de_ix Z0.ok (DF.Room.u1 hr) (dv 2) de_int (fun _ _ => rfl) (fun _ _ => rfl)) de_int (nomark _))) (dr_val (de_cmp Z0.ok o_lt (de_ix Z0.ok (DF.Room.u1 hr) (dv 1) de_int (fun _ _ => rfl) (fun _ _ => rfl)) de_int (nomark _))) (by rfl)) (ds_one (ds_ret (de_callTy Z0.ok o_tuple rfl D.n_tuple (by rfl) (da_cons Z0.ok (de_ofL Z0.ok (dl_lc (own := [("side", 5), ("is_asked", 6)]) Z0.ok rfl sc_asked_sides.nd (di_val Z0.ok (de_tup Z0.ok (da_cons Z0.ok (de_tup Z0.ok (da_cons Z0.ok (de_gstr D.g_FIRST) (da_cons Z0.ok (dv 3) da_nil))) (da_cons Z0.ok (de_tup Z0.ok (da_cons Z0.ok (de_gstr D.g_SECOND) (da_cons Z0.ok (dv 4) da_nil))) da_nil)))) (blkOk_by (by show blkC ["book", "mx", "my", "is_first", "is_second", "side", "is_asked"] (defScope s_asked_sides) _ _ = true; decide +kernel)) (fun _ _ _ _ _ => (dg_tup rfl (dgs_cons Z0.ok (dg_name sc_asked_sides.nd (i := 5) rfl (by first | exact Or.inl rfl | exact Or.inr rfl)) (dgs_cons Z0.ok (dg_name sc_asked_sides.nd (i := 6) rfl (by first | exact Or.inl rfl | exact Or.inr rfl)) dgs_nil)))) (fun _ _ _ _ _ => (dts_one (dt_val Z0.ok (dv 6)))) (fun _ _ _ _ _ => (dv 5)))) da_nil))))))

/-! turns -/
theorem sc_turns : FnScope ["book", "mx", "my", "ax", "ay", "bx", "by", "region"] ["book"] (defScope s_turns) := ⟨rfl, rfl, rfl, by decide +kernel, rfl, by decide +kernel, by decide +kernel⟩
theorem ok_turns (D : Dat K cl mg) : Ok P w K cl mg base 6 "turns" ["book"] m_turns := by
  refine ok_def D.d_turns sc_turns (fun _ _ _ _ _ _ us hl => match us, hl with | [_], _ => rfl) (fun f cdv A outer s H E hr => ?_)
  unfold M_turns
  exact (ds_cons Z0.ok (ds_asg Z0.ok (de_ofL Z0.ok (dl_lc (own := [("region", 7)]) Z0.ok rfl sc_turns.nd (di_val Z0.ok (de_tup Z0.ok (da_cons Z0.ok (de_gstr D.g_INSIDE) (da_cons Z0.ok (de_gstr D.g_FIRST) (da_cons Z0.ok (de_gstr D.g_SECOND) da_nil))))) (blkOk_by (by show blkC ["book", "mx", "my", "ax", "ay", "bx", "by", "region"] (defScope s_turns) _ _ = true; decide +kernel)) (fun _ _ _ _ _ => (dg_name sc_turns.nd (i := 7) rfl (by first | exact Or.inl rfl | exact Or.inr rfl))) (fun _ _ _ _ _ => dts_nil) (fun _ _ _ _ _ => (de_callX Z0.ok (ok_drift D) hr (by decide) (ALen.cons (ALen.cons ALen.nil)) (da_cons Z0.ok (dv 0) (da_cons Z0.ok (dv 7) da_nil)))))) (dg_tup rfl (dgs_cons Z0.ok (dg_tup rfl (dgs_cons Z0.ok (dg_name sc_turns.nd (i := 1) rfl (by first | exact Or.inl rfl | exact Or.inr rfl)) (dgs_cons Z0.ok (dg_name sc_turns.nd (i := 2) rfl (by first | exact Or.inl rfl | exact Or.inr rfl)) dgs_nil))) (dgs_cons Z0.ok (dg_tup rfl (dgs_cons Z0.ok (dg_name sc_turns.nd (i := 3) rfl (by first | exact Or.inl rfl | exact Or.inr rfl)) (dgs_cons Z0.ok (dg_name sc_turns.nd (i := 4) rfl (by first | exact Or.inl rfl | exact Or.inr rfl)) dgs_nil))) (dgs_cons Z0.ok (dg_tup rfl (dgs_cons Z0.ok (dg_name sc_turns.nd (i := 5) rfl (by first | exact Or.inl rfl | exact Or.inr rfl)) (dgs_cons Z0.ok (dg_name sc_turns.nd (i := 6) rfl (by first | exact Or.inl rfl | exact Or.inr rfl)) dgs_nil))) dgs_nil))))) (ds_one (ds_ret (de_tup Z0.ok (da_cons Z0.ok (de_callX Z0.ok (ok_less D) hr (by decide) (ALen.cons (ALen.cons ALen.nil)) (da_cons Z0.ok (de_callX Z0.ok (ok_times D) hr (by decide) (ALen.cons (ALen.cons ALen.nil)) (da_cons Z0.ok (dv 4) (da_cons Z0.ok (dv 1) da_nil))) (da_cons Z0.ok (de_callX Z0.ok (ok_times D) hr (by decide) (ALen.cons (ALen.cons ALen.nil)) (da_cons Z0.ok (dv 3) (da_cons Z0.ok (dv 2) da_nil))) da_nil))) (da_cons Z0.ok (de_callX Z0.ok (ok_less D) hr (by decide) (ALen.cons (ALen.cons ALen.nil)) (da_cons Z0.ok (de_callX Z0.ok (ok_times D) hr (by decide) (ALen.cons (ALen.cons ALen.nil)) (da_cons Z0.ok (dv 5) (da_cons Z0.ok (dv 2) da_nil))) (da_cons Z0.ok (de_callX Z0.ok (ok_times D) hr (by decide) (ALen.cons (ALen.cons ALen.nil)) (da_cons Z0.ok (dv 6) (da_cons Z0.ok (dv 1) da_nil))) da_nil))) da_nil))))))

/-! border -/
theorem sc_border : FnScope ["book", "mx", "my", "ax", "ay", "bx", "by", "word", "number", "sides", "side", "turn", "region"] ["book"] (defScope s_border) := ⟨rfl, rfl, rfl, by decide +kernel, rfl, by decide +kernel, by decide +kernel⟩
theorem ok_border (D : Dat K cl mg) : Ok P w K cl mg base 7 "border" ["book"] m_border := by
  refine ok_def D.d_border sc_border (fun _ _ _ _ _ _ us hl => match us, hl with | [_], _ => rfl) (fun f cdv A outer s H E hr => ?_)
  unfold M_border
  exact (ds_cons Z0.ok (ds_asg Z0.ok (de_ofL Z0.ok (dl_lc (own := [("region", 12)]) Z0.ok rfl sc_border.nd (di_val Z0.ok (de_tup Z0.ok (da_cons Z0.ok (de_gstr D.g_INSIDE) (da_cons Z0.ok (de_gstr D.g_FIRST) (da_cons Z0.ok (de_gstr D.g_SECOND) da_nil))))) (blkOk_by (by show blkC ["book", "mx", "my", "ax", "ay", "bx", "by", "word", "number", "sides", "side", "turn", "region"] (defScope s_border) _ _ = true; decide +kernel)) (fun _ _ _ _ _ => (dg_name sc_border.nd (i := 12) rfl (by first | exact Or.inl rfl | exact Or.inr rfl))) (fun _ _ _ _ _ => dts_nil) (fun _ _ _ _ _ => (de_callX Z0.ok (ok_drift D) hr (by decide) (ALen.cons (ALen.cons ALen.nil)) (da_cons Z0.ok (dv 0) (da_cons Z0.ok (dv 12) da_nil)))))) (dg_tup rfl (dgs_cons Z0.ok (dg_tup rfl (dgs_cons Z0.ok (dg_name sc_border.nd (i := 1) rfl (by first | exact Or.inl rfl | exact Or.inr rfl)) (dgs_cons Z0.ok (dg_name sc_border.nd (i := 2) rfl (by first | exact Or.inl rfl | exact Or.inr rfl)) dgs_nil))) (dgs_cons Z0.ok (dg_tup rfl (dgs_cons Z0.ok (dg_name sc_border.nd (i := 3) rfl (by first | exact Or.inl rfl | exact Or.inr rfl)) (dgs_cons Z0.ok (dg_name sc_border.nd (i := 4) rfl (by first | exact Or.inl rfl | exact Or.inr rfl)) dgs_nil))) (dgs_cons Z0.ok (dg_tup rfl (dgs_cons Z0.ok (dg_name sc_border.nd (i := 5) rfl (by first | exact Or.inl rfl | exact Or.inr rfl)) (dgs_cons Z0.ok (dg_name sc_border.nd (i := 6) rfl (by first | exact Or.inl rfl | exact Or.inr rfl)) dgs_nil))) dgs_nil))))) (ds_cons Z0.ok (ds_for Z0.ok PassesOwn.never rfl (di_val Z0.ok (de_tup Z0.ok (da_cons Z0.ok (de_tup Z0.ok (da_cons Z0.ok (de_gstr D.g_BORDER_X) (da_cons Z0.ok (dv 1) da_nil))) (da_cons Z0.ok (de_tup Z0.ok (da_cons Z0.ok (de_gstr D.g_BORDER_Y) (da_cons Z0.ok (dv 2) da_nil))) (da_cons Z0.ok (de_tup Z0.ok (da_cons Z0.ok (de_gstr D.g_FIRST) (da_cons Z0.ok (dv 4) da_nil))) (da_cons Z0.ok (de_tup Z0.ok (da_cons Z0.ok (de_gstr D.g_SECOND) (da_cons Z0.ok (dv 5) da_nil))) da_nil)))))) (dg_tup rfl (dgs_cons Z0.ok (dg_name sc_border.nd (i := 7) rfl (by first | exact Or.inl rfl | exact Or.inr rfl)) (dgs_cons Z0.ok (dg_name sc_border.nd (i := 8) rfl (by first | exact Or.inl rfl | exact Or.inr rfl)) dgs_nil))) (ds_one (ds_if Z0.ok (dt_cmp Z0.ok (o_eq (DF.Room.u64 hr)) (de_ix Z0.ok (DF.Room.u1 hr) (dv 8) de_int (fun _ _ => rfl) (fun _ _ => rfl)) de_int (nomark _)) (ds_one (ds_ret (dv 7))) ds_nil))) (ds_cons Z0.ok (ds_set (i := 9) sc_border.nd rfl (by first | exact Or.inl rfl | exact Or.inr rfl) (dr_val (de_callX Z0.ok (ok_asked_sides D) hr (by decide) (ALen.cons ALen.nil) (da_cons Z0.ok (dv 0) da_nil)))) (ds_cons Z0.ok (ds_for Z0.ok PassesOwn.never rfl (di_zip6 Z0.ok rfl D.n_zip (da_cons Z0.ok (de_tup Z0.ok (da_cons Z0.ok (de_gstr D.g_FIRST) (da_cons Z0.ok (de_gstr D.g_SECOND) da_nil))) (da_cons Z0.ok (de_tup Z0.ok (da_cons Z0.ok (de_gstr D.g_FIRST_TURN) (da_cons Z0.ok (de_gstr D.g_SECOND_TURN) da_nil))) (da_cons Z0.ok (de_callX Z0.ok (ok_turns D) hr (by decide) (ALen.cons ALen.nil) (da_cons Z0.ok (dv 0) da_nil)) da_nil)))) (dg_tup rfl (dgs_cons Z0.ok (dg_name sc_border.nd (i := 10) rfl (by first | exact Or.inl rfl | exact Or.inr rfl)) (dgs_cons Z0.ok (dg_name sc_border.nd (i := 7) rfl (by first | exact Or.inl rfl | exact Or.inr rfl)) (dgs_cons Z0.ok (dg_name sc_border.nd (i := 11) rfl (by first | exact Or.inl rfl | exact Or.inr rfl)) dgs_nil)))) (ds_one (ds_if Z0.ok (dt_w (dw_and Z0.ok (dt_cmp Z0.ok (o_in (DF.Room.u65 hr)) (dv 10) (dv 9) (by rfl)) (dw_and1 (dt_cmp Z0.ok (o_eq (DF.Room.u64 hr)) (de_ix Z0.ok (DF.Room.u1 hr) (dv 11) de_int (fun _ _ => rfl) (fun _ _ => rfl)) de_int (nomark _))))) (ds_one (ds_ret (dv 7))) ds_nil))) (ds_one (ds_ret de_non))))))

/-! _law_frac_is_less -/
theorem sc__law_frac_is_less : FnScope ["one", "other"] ["one", "other"] (defScope s__law_frac_is_less) := ⟨rfl, rfl, rfl, by decide +kernel, rfl, by decide +kernel, by decide +kernel⟩
theorem ok__law_frac_is_less (D : Dat K cl mg) : Ok P w K cl mg base 1 "_law_frac_is_less" ["one", "other"] m__law_frac_is_less := by
  refine ok_def D.d__law_frac_is_less sc__law_frac_is_less (fun _ _ _ _ _ _ us hl => match us, hl with | [_, _], _ => rfl) (fun f cdv A outer s H E hr => ?_)
  unfold M__law_frac_is_less
  exact (ds_one (ds_ret (de_cmp Z0.ok o_lt (de_bin Z0.ok o_mul (de_ix Z0.ok (DF.Room.u1 hr) (dv 0) de_int (fun _ _ => rfl) (fun _ _ => rfl)) (de_ix Z0.ok (DF.Room.u1 hr) (dv 1) de_int (fun _ _ => rfl) (fun _ _ => rfl))) (de_bin Z0.ok o_mul (de_ix Z0.ok (DF.Room.u1 hr) (dv 1) de_int (fun _ _ => rfl) (fun _ _ => rfl)) (de_ix Z0.ok (DF.Room.u1 hr) (dv 0) de_int (fun _ _ => rfl) (fun _ _ => rfl))) (nomark _))))

/-! check_plain -/
theorem sc_check_plain : FnScope ["book", "word"] ["book"] (defScope s_check_plain) := ⟨rfl, rfl, rfl, by decide +kernel, rfl, by decide +kernel, by decide +kernel⟩
theorem ok_check_plain (D : Dat K cl mg) : Ok P w K cl mg base 8 "check_plain" ["book"] m_check_plain := by
  refine ok_def D.d_check_plain sc_check_plain (fun _ _ _ _ _ _ us hl => match us, hl with | [_], _ => rfl) (fun f cdv A outer s H E hr => ?_)
  unfold M_check_plain
  exact (ds_cons Z0.ok (ds_set (i := 1) sc_check_plain.nd rfl (by first | exact Or.inl rfl | exact Or.inr rfl) (dr_val (de_callX Z0.ok (ok_border D) hr (by decide) (ALen.cons ALen.nil) (da_cons Z0.ok (dv 0) da_nil)))) (ds_one (ds_if Z0.ok (dt_cmp Z0.ok o_isnot (dv 1) de_non (nomark _)) (ds_one ds_never) ds_nil)))

/-! asked -/
theorem sc_asked : FnScope ["book"] ["book"] (defScope s_asked) := ⟨rfl, rfl, rfl, by decide +kernel, rfl, by decide +kernel, by decide +kernel⟩
theorem ok_asked (D : Dat K cl mg) : Ok P w K cl mg base 9 "asked" ["book"] m_asked := by
  refine ok_def D.d_asked sc_asked (fun _ _ _ _ _ _ us hl => match us, hl with | [_], _ => rfl) (fun f cdv A outer s H E hr => ?_)
  unfold M_asked
  exact (ds_cons Z0.ok (ds_expr (de_callX Z0.ok (ok_check_plain D) hr (by decide) (ALen.cons ALen.nil) (da_cons Z0.ok (dv 0) da_nil))) (ds_one (ds_ret (de_callX Z0.ok (ok_asked_sides D) hr (by decide) (ALen.cons ALen.nil) (da_cons Z0.ok (dv 0) da_nil)))))

/-! does_come_home -/
theorem sc_does_come_home : FnScope ["book", "sides", "known", "side"] ["book"] (defScope s_does_come_home) := ⟨rfl, rfl, rfl, by decide +kernel, rfl, by decide +kernel, by decide +kernel⟩
theorem ok_does_come_home (D : Dat K cl mg) : Ok P w K cl mg base 10 "does_come_home" ["book"] m_does_come_home := by
  refine ok_def D.d_does_come_home sc_does_come_home (fun _ _ _ _ _ _ us hl => match us, hl with | [_], _ => rfl) (fun f cdv A outer s H E hr => ?_)
  unfold M_does_come_home
  exact (ds_cons Z0.ok (ds_set (i := 1) sc_does_come_home.nd rfl (by first | exact Or.inl rfl | exact Or.inr rfl) (dr_val (de_callX Z0.ok (ok_asked D) hr (by decide) (ALen.cons ALen.nil) (da_cons Z0.ok (dv 0) da_nil)))) (ds_cons Z0.ok (ds_set (i := 2) sc_does_come_home.nd rfl (by first | exact Or.inl rfl | exact Or.inr rfl) (dr_val (de_ofL Z0.ok (dl_dict Z0.ok rfl D.n_dict (de_ofL Z0.ok (dl_listZ Z0.ok rfl D.n_list D.n_zip (da_cons Z0.ok (de_tup Z0.ok (da_cons Z0.ok (de_gstr D.g_FIRST) (da_cons Z0.ok (de_gstr D.g_SECOND) da_nil))) (da_cons Z0.ok (de_callX Z0.ok (ok_turns D) hr (by decide) (ALen.cons ALen.nil) (da_cons Z0.ok (dv 0) da_nil)) da_nil)))))))) (ds_one (ds_ret (de_and Z0.ok (de_cmp Z0.ok (o_ne (DF.Room.u64 hr)) (dv 1) (de_tup Z0.ok da_nil) (nomark _)) (de_one (de_callB Z0.ok (o_all rfl) rfl D.n_all (by rfl) (da_cons Z0.ok (de_ofL Z0.ok (dl_lc (own := [("side", 3)]) Z0.ok rfl sc_does_come_home.nd (di_val Z0.ok (dv 1)) (blkOk_by (by show blkC ["book", "sides", "known", "side"] (defScope s_does_come_home) _ _ = true; decide +kernel)) (fun _ _ _ _ _ => (dg_name sc_does_come_home.nd (i := 3) rfl (by first | exact Or.inl rfl | exact Or.inr rfl))) (fun _ _ _ _ _ => dts_nil) (fun _ _ _ _ _ => (de_cmp Z0.ok o_lt (de_ix Z0.ok (DF.Room.u1 hr) (de_ix Z0.ok (DF.Room.u1 hr) (dv 2) (dv 3) (fun _ _ => rfl) (fun _ _ => rfl)) de_int (fun _ _ => rfl) (fun _ _ => rfl)) de_int (nomark _))))) da_nil))))))))

/-! _law_right -/
theorem sc__law_right : FnScope ["pot", "told", "a", "b", "m", "k", "p", "q", "own", "due", "book", "word", "are_below", "load"] ["pot"] (defScope s__law_right) := ⟨rfl, rfl, rfl, by decide +kernel, rfl, by decide +kernel, by decide +kernel⟩
theorem ok__law_right (D : Dat K cl mg) : Ok P w K cl mg base 12 "_law_right" ["pot"] m__law_right := by
  refine ok_def D.d__law_right sc__law_right (fun _ _ _ _ _ _ us hl => match us, hl with | [_], _ => rfl) (fun f cdv A outer s H E hr => ?_)
  unfold M__law_right
  exact (ds_cons Z0.ok (ds_set (i := 1) sc__law_right.nd rfl (by first | exact Or.inl rfl | exact Or.inr rfl) (dr_val (de_callMX 0 Z0.ok (ok__law_told D) hr (by decide) rfl ALen.nil (pv 0) da_nil))) (ds_cons Z0.ok (ds_asg Z0.ok (dv 1) (dg_tup rfl (dgs_cons Z0.ok (dg_name sc__law_right.nd (i := 2) rfl (by first | exact Or.inl rfl | exact Or.inr rfl)) (dgs_cons Z0.ok (dg_name sc__law_right.nd (i := 3) rfl (by first | exact Or.inl rfl | exact Or.inr rfl)) (dgs_cons Z0.ok (dg_name sc__law_right.nd (i := 4) rfl (by first | exact Or.inl rfl | exact Or.inr rfl)) (dgs_cons Z0.ok (dg_name sc__law_right.nd (i := 5) rfl (by first | exact Or.inl rfl | exact Or.inr rfl)) (dgs_cons Z0.ok (dg_name sc__law_right.nd (i := 6) rfl (by first | exact Or.inl rfl | exact Or.inr rfl)) (dgs_cons Z0.ok (dg_name sc__law_right.nd (i := 7) rfl (by first | exact Or.inl rfl | exact Or.inr rfl)) dgs_nil)))))))) (ds_cons Z0.ok (ds_par (i := 8) (j := 9) Z0.ok rfl rfl sc__law_right.nd rfl rfl (by decide) rfl rfl (dr_val (de_callX Z0.ok (ok__law_handed D) hr (by decide) (ALen.cons ALen.nil) (da_cons Z0.ok (dv 1) da_nil))) (dr_val (de_callX Z0.ok (ok__law_loads D) hr (by decide) (ALen.cons ALen.nil) (da_cons Z0.ok (dv 1) da_nil))) (by rfl)) (ds_cons Z0.ok (ds_set (i := 10) sc__law_right.nd rfl (by first | exact Or.inl rfl | exact Or.inr rfl) (dr_val (de_callKX (ks := ["q", "p", "k", "m", "b", "a"]) (is := [5, 4, 3, 2, 1, 0]) Z0.ok (Ok.kw (ks := ["q", "p", "k", "m", "b", "a"]) [5, 4, 3, 2, 1, 0] (ok_handed_on D) D.d_handed_on (fun _ _ _ _ _ _ ws hl => match ws, hl with | [_, _, _, _, _, _], _ => rfl)) hr (by decide) rfl (ALen.cons (ALen.cons (ALen.cons (ALen.cons (ALen.cons (ALen.cons ALen.nil)))))) (dk_cons Z0.ok (dv 7) (dk_cons Z0.ok (dv 6) (dk_cons Z0.ok (dv 5) (dk_cons Z0.ok (dv 4) (dk_cons Z0.ok (dv 3) (dk_cons Z0.ok (dv 2) dk_nil))))))))) (ds_cons Z0.ok (ds_if Z0.ok (dt_w (dw_or Z0.ok (dt_cmp Z0.ok (o_ne (DF.Room.u64 hr)) (de_prop (c := 0) D.sc_Book (ok_Book_text D) hr (by decide) (dv 10)) (de_callX Z0.ok (ok__law_book_text D) hr (by decide) (ALen.cons ALen.nil) (da_cons Z0.ok (dv 8) da_nil)) (nomark _)) (dw_or1 (dt_cmp Z0.ok (o_ne (DF.Room.u64 hr)) (de_callB Z0.ok (o_repr hr) rfl D.n_repr (by rfl) (da_cons Z0.ok (de_callX Z0.ok (ok_loads D) hr (by decide) (ALen.cons (ALen.cons (ALen.cons (ALen.cons (ALen.cons (ALen.cons ALen.nil)))))) (da_cons Z0.ok (dv 2) (da_cons Z0.ok (dv 3) (da_cons Z0.ok (dv 4) (da_cons Z0.ok (dv 5) (da_cons Z0.ok (dv 6) (da_cons Z0.ok (dv 7) da_nil))))))) da_nil)) (de_callB Z0.ok (o_repr hr) rfl D.n_repr (by rfl) (da_cons Z0.ok (dv 9) da_nil)) (nomark _))))) (ds_one (ds_ret de_bl)) ds_nil) (ds_cons Z0.ok (ds_if Z0.ok (dt_cmp Z0.ok (o_ne (DF.Room.u64 hr)) (de_callB Z0.ok (o_repr hr) rfl D.n_repr (by rfl) (da_cons Z0.ok (de_callKX (ks := ["q", "p", "k", "m", "b", "a"]) (is := [5, 4, 3, 2, 1, 0]) Z0.ok (Ok.kw (ks := ["q", "p", "k", "m", "b", "a"]) [5, 4, 3, 2, 1, 0] (ok_loads D) D.d_loads (fun _ _ _ _ _ _ ws hl => match ws, hl with | [_, _, _, _, _, _], _ => rfl)) hr (by decide) rfl (ALen.cons (ALen.cons (ALen.cons (ALen.cons (ALen.cons (ALen.cons ALen.nil)))))) (dk_cons Z0.ok (dv 6) (dk_cons Z0.ok (dv 7) (dk_cons Z0.ok (dv 4) (dk_cons Z0.ok (dv 5) (dk_cons Z0.ok (dv 2) (dk_cons Z0.ok (dv 3) dk_nil))))))) da_nil)) (de_callB Z0.ok (o_repr hr) rfl D.n_repr (by rfl) (da_cons Z0.ok (de_tup Z0.ok (da_cons Z0.ok (de_ix Z0.ok (DF.Room.u1 hr) (dv 9) de_int (fun _ _ => rfl) (fun _ _ => rfl)) (da_cons Z0.ok (de_ix Z0.ok (DF.Room.u1 hr) (dv 9) de_int (fun _ _ => rfl) (fun _ _ => rfl)) da_nil))) da_nil)) (nomark _)) (ds_one (ds_ret de_bl)) ds_nil) (ds_cons Z0.ok (ds_if Z0.ok (dt_w (dw_or Z0.ok (dt_cmp Z0.ok (o_ne (DF.Room.u64 hr)) (de_callB Z0.ok (o_repr hr) rfl D.n_repr (by rfl) (da_cons Z0.ok (de_callX Z0.ok (ok_turns D) hr (by decide) (ALen.cons ALen.nil) (da_cons Z0.ok (dv 10) da_nil)) da_nil)) (de_callB Z0.ok (o_repr hr) rfl D.n_repr (by rfl) (da_cons Z0.ok (de_callX Z0.ok (ok__law_book_turns D) hr (by decide) (ALen.cons ALen.nil) (da_cons Z0.ok (dv 8) da_nil)) da_nil)) (nomark _)) (dw_or1 (dt_not Z0.ok (dt_val Z0.ok (de_callX Z0.ok (ok__law_are_turns_right D) hr (by decide) (ALen.cons (ALen.cons ALen.nil)) (da_cons Z0.ok (dv 1) (da_cons Z0.ok (de_callX Z0.ok (ok__law_book_turns D) hr (by decide) (ALen.cons ALen.nil) (da_cons Z0.ok (dv 8) da_nil)) da_nil)))))))) (ds_one (ds_ret de_bl)) ds_nil) (ds_cons Z0.ok (ds_set (i := 11) sc__law_right.nd rfl (by first | exact Or.inl rfl | exact Or.inr rfl) (dr_val (de_callX Z0.ok (ok__law_book_border D) hr (by decide) (ALen.cons ALen.nil) (da_cons Z0.ok (dv 8) da_nil)))) (ds_cons Z0.ok (ds_if Z0.ok (dt_cmp Z0.ok (o_ne (DF.Room.u64 hr)) (de_callB Z0.ok (o_repr hr) rfl D.n_repr (by rfl) (da_cons Z0.ok (de_callX Z0.ok (ok_border D) hr (by decide) (ALen.cons ALen.nil) (da_cons Z0.ok (dv 10) da_nil)) da_nil)) (de_callB Z0.ok (o_repr hr) rfl D.n_repr (by rfl) (da_cons Z0.ok (dv 11) da_nil)) (nomark _)) (ds_one (ds_ret de_bl)) ds_nil) (ds_cons Z0.ok (ds_set (i := 12) sc__law_right.nd rfl (by first | exact Or.inl rfl | exact Or.inr rfl) (dr_val (de_callB Z0.ok (o_all rfl) rfl D.n_all (by rfl) (da_cons Z0.ok (de_ofL Z0.ok (dl_lc (own := [("load", 13)]) Z0.ok rfl sc__law_right.nd (di_val Z0.ok (dv 9)) (blkOk_by (by show blkC ["pot", "told", "a", "b", "m", "k", "p", "q", "own", "due", "book", "word", "are_below", "load"] (defScope s__law_right) _ _ = true; decide +kernel)) (fun _ _ _ _ _ => (dg_name sc__law_right.nd (i := 13) rfl (by first | exact Or.inl rfl | exact Or.inr rfl))) (fun _ _ _ _ _ => dts_nil) (fun _ _ _ _ _ => (de_callX Z0.ok (ok__law_frac_is_less D) hr (by decide) (ALen.cons (ALen.cons ALen.nil)) (da_cons Z0.ok (dv 13) (da_cons Z0.ok (de_tup Z0.ok (da_cons Z0.ok de_int (da_cons Z0.ok de_int da_nil))) da_nil)))))) da_nil)))) (ds_one (ds_ret (de_or Z0.ok (de_cmp Z0.ok o_isnot (dv 11) de_non (nomark _)) (de_one (de_cmp Z0.ok (o_eq (DF.Room.u64 hr)) (de_callB Z0.ok (o_repr hr) rfl D.n_repr (by rfl) (da_cons Z0.ok (de_callX Z0.ok (ok_does_come_home D) hr (by decide) (ALen.cons ALen.nil) (da_cons Z0.ok (dv 10) da_nil)) da_nil)) (de_callB Z0.ok (o_repr hr) rfl D.n_repr (by rfl) (da_cons Z0.ok (dv 12) da_nil)) (nomark _))))))))))))))))

/-! _law_pot -/
theorem sc__law_pot : FnScope ["script", "place", "cell", "own", "small"] ["script", "place"] (defScope s__law_pot) := ⟨rfl, rfl, rfl, by decide +kernel, rfl, by decide +kernel, by decide +kernel⟩
theorem ok__law_pot (D : Dat K cl mg) : OkL P w K cl mg base 1 "_law_pot" ["script", "place"] m__law_pot := by
  refine ok_defL D.d__law_pot sc__law_pot (fun _ _ _ _ _ _ us hl => match us, hl with | [_, _], _ => rfl) (fun f cdv A outer s H E hr => ?_)
  unfold M__law_pot
  exact (dsl_cons Z0.ok (ds_set (i := 2) sc__law_pot.nd rfl (by first | exact Or.inl rfl | exact Or.inr rfl) (dr_val (de_if Z0.ok (dt_cmp Z0.ok o_lt (dv 1) (de_callB Z0.ok o_len rfl D.n_len (by rfl) (da_cons Z0.ok (dv 0) da_nil)) (nomark _)) (de_ix Z0.ok (DF.Room.u1 hr) (dv 0) (dv 1) (fun _ _ => rfl) (fun _ _ => rfl)) (de_bin Z0.ok o_add (de_bin Z0.ok o_add (de_bin Z0.ok o_mod (de_callB Z0.ok (o_sum rfl) rfl D.n_sum (by rfl) (da_cons Z0.ok (de_slice Z0.ok (dv 0) do_none (do_some Z0.ok de_int)) da_nil)) de_int) (de_bin Z0.ok o_mul de_int (dv 1))) de_int)))) (dsl_cons Z0.ok (ds_set (i := 3) sc__law_pot.nd rfl (by first | exact Or.inl rfl | exact Or.inr rfl) (dr_val (de_bin Z0.ok o_mul (de_bin Z0.ok o_mod (de_callTy Z0.ok o_int rfl D.n_int (by rfl) (da_cons Z0.ok (de_callB Z0.ok o_abs rfl D.n_abs (by rfl) (da_cons Z0.ok (dv 2) da_nil)) da_nil)) (de_bin Z0.ok o_pow (de_bin Z0.ok o_pow de_int de_int) de_int)) (de_callTy Z0.ok o_int rfl D.n_int (by rfl) (da_cons Z0.ok (de_cmp Z0.ok o_ge (de_callB Z0.ok o_abs rfl D.n_abs (by rfl) (da_cons Z0.ok (dv 2) da_nil)) (de_bin Z0.ok o_pow de_int de_int) (nomark _)) da_nil))))) (dsl_cons Z0.ok (ds_set (i := 4) sc__law_pot.nd rfl (by first | exact Or.inl rfl | exact Or.inr rfl) (dr_val (de_bin Z0.ok o_mod (de_callTy Z0.ok o_int rfl D.n_int (by rfl) (da_cons Z0.ok (dv 2) da_nil)) de_int))) (dsl_one (ds_retL (dl_lst Z0.ok (da_cons Z0.ok (dv 3) (da_cons Z0.ok (de_bin Z0.ok o_mod (de_callTy Z0.ok o_int rfl D.n_int (by rfl) (da_cons Z0.ok (de_bin Z0.ok o_add (de_bin Z0.ok o_add (de_bin Z0.ok o_mul (dv 4) de_int) (de_bin Z0.ok o_mul (de_bin Z0.ok o_mul de_int (dv 1)) (dv 1))) de_int) da_nil)) de_int) (da_cons Z0.ok de_int da_nil)))))))))

/-! _law_cells -/
theorem sc__law_cells : FnScope ["script", "most"] ["script", "most"] (defScope s__law_cells) := ⟨rfl, rfl, rfl, by decide +kernel, rfl, by decide +kernel, by decide +kernel⟩
theorem ok__law_cells (D : Dat K cl mg) : Ok P w K cl mg base 1 "_law_cells" ["script", "most"] m__law_cells := by
  refine ok_def D.d__law_cells sc__law_cells (fun _ _ _ _ _ _ us hl => match us, hl with | [_, _], _ => rfl) (fun f cdv A outer s H E hr => ?_)
  unfold M__law_cells
  exact (ds_one (ds_ret (de_ofL Z0.ok (dl_listRg Z0.ok rfl D.n_list D.n_range (de_callB Z0.ok (o_max2 rfl) rfl D.n_max (by rfl) (da_cons Z0.ok de_int (da_cons Z0.ok (de_callB Z0.ok (o_min2 rfl) rfl D.n_min (by rfl) (da_cons Z0.ok (dv 1) (da_cons Z0.ok (de_callB Z0.ok o_len rfl D.n_len (by rfl) (da_cons Z0.ok (dv 0) da_nil)) da_nil))) da_nil)))))))

/-! law -/
theorem sc_law : FnScope ["script", "place"] ["script"] (defScope s_law) := ⟨rfl, rfl, rfl, by decide +kernel, rfl, by decide +kernel, by decide +kernel⟩
theorem ok_law (D : Dat K cl mg) : Ok P w K cl mg base 13 "law" ["script"] m_law := by
  refine ok_def D.d_law sc_law (fun _ _ _ _ _ _ us hl => match us, hl with | [_], _ => rfl) (fun f cdv A outer s H E hr => ?_)
  unfold M_law
  exact (ds_one (ds_ret (de_callB Z0.ok (o_all rfl) rfl D.n_all (by rfl) (da_cons Z0.ok (de_ofL Z0.ok (dl_lc (own := [("place", 1)]) Z0.ok rfl sc_law.nd (di_val Z0.ok (de_callX Z0.ok (ok__law_cells D) hr (by decide) (ALen.cons (ALen.cons ALen.nil)) (da_cons Z0.ok (dv 0) (da_cons Z0.ok de_int da_nil)))) (blkOk_by (by show blkC ["script", "place"] (defScope s_law) _ _ = true; decide +kernel)) (fun _ _ _ _ _ => (dg_name sc_law.nd (i := 1) rfl (by first | exact Or.inl rfl | exact Or.inr rfl))) (fun _ _ _ _ _ => dts_nil) (fun _ _ _ _ _ => (de_callMLX Z0.ok (ok__law_right D) hr (by decide) rfl ALen.nil (dl_callX Z0.ok (ok__law_pot D) hr (by decide) (ALen.cons (ALen.cons ALen.nil)) (da_cons Z0.ok (dv 0) (da_cons Z0.ok (dv 1) da_nil))) da_nil)))) da_nil))))
end
theorem law_true (ns : List Int) (h : ns.length ≤ 63) : DF.ev m_law [.val (.scr ns)] = some (.bl true) := DF.law_true ns h
end K43
set_option maxHeartbeats 0
namespace K43
open PySem PySem.Spec PyProof.Rows L2 DF
def dd__law_frac_common : He.DefD := ⟨("_law_frac_common", none), "_law_frac_common", "_law_frac_common", defArgs s__law_frac_common, defBody s__law_frac_common, defScope s__law_frac_common, [], []⟩
def dd__law_frac : He.DefD := ⟨("_law_frac", none), "_law_frac", "_law_frac", defArgs s__law_frac, defBody s__law_frac, defScope s__law_frac, [], []⟩
def dd__law_take : He.DefD := ⟨("_law_take", none), "_law_take", "_law_take", defArgs s__law_take, defBody s__law_take, defScope s__law_take, [], []⟩
def dd__law_parts : He.DefD := ⟨("_law_parts", none), "_law_parts", "_law_parts", defArgs s__law_parts, defBody s__law_parts, defScope s__law_parts, [], []⟩
def dd__law_frac_times : He.DefD := ⟨("_law_frac_times", none), "_law_frac_times", "_law_frac_times", defArgs s__law_frac_times, defBody s__law_frac_times, defScope s__law_frac_times, [], []⟩
def dd__law_part : He.DefD := ⟨("_law_part", none), "_law_part", "_law_part", defArgs s__law_part, defBody s__law_part, defScope s__law_part, [], []⟩
def dd__law_frac_plus : He.DefD := ⟨("_law_frac_plus", none), "_law_frac_plus", "_law_frac_plus", defArgs s__law_frac_plus, defBody s__law_frac_plus, defScope s__law_frac_plus, [], []⟩
def dd__law_frac_less : He.DefD := ⟨("_law_frac_less", none), "_law_frac_less", "_law_frac_less", defArgs s__law_frac_less, defBody s__law_frac_less, defScope s__law_frac_less, [], []⟩
def dd__law_told : He.DefD := ⟨("_law_told", none), "_law_told", "_law_told", defArgs s__law_told, defBody s__law_told, defScope s__law_told, [], []⟩
def dd_common : He.DefD := ⟨("common", none), "common", "common", defArgs s_common, defBody s_common, defScope s_common, [], []⟩
def dd_ratio : He.DefD := ⟨("ratio", none), "ratio", "ratio", defArgs s_ratio, defBody s_ratio, defScope s_ratio, [], []⟩
def dd_plus : He.DefD := ⟨("plus", none), "plus", "plus", defArgs s_plus, defBody s_plus, defScope s_plus, [], []⟩
def dd_total : He.DefD := ⟨("total", none), "total", "total", defArgs s_total, defBody s_total, defScope s_total, [], []⟩
def dd_is_whole : He.DefD := ⟨("is_whole", none), "is_whole", "is_whole", defArgs s_is_whole, defBody s_is_whole, defScope s_is_whole, [], []⟩
def dd_is_ratio : He.DefD := ⟨("is_ratio", none), "is_ratio", "is_ratio", defArgs s_is_ratio, defBody s_is_ratio, defScope s_is_ratio, [], []⟩
def dd_is_size : He.DefD := ⟨("is_size", none), "is_size", "is_size", defArgs s_is_size, defBody s_is_size, defScope s_is_size, [], []⟩
def dd_check_chances : He.DefD := ⟨("check_chances", none), "check_chances", "check_chances", defArgs s_check_chances, defBody s_check_chances, defScope s_check_chances, [], []⟩
def dd_is_rate : He.DefD := ⟨("is_rate", none), "is_rate", "is_rate", defArgs s_is_rate, defBody s_is_rate, defScope s_is_rate, [], []⟩
def dd_is_below : He.DefD := ⟨("is_below", none), "is_below", "is_below", defArgs s_is_below, defBody s_is_below, defScope s_is_below, [], []⟩
def dd_is_part : He.DefD := ⟨("is_part", none), "is_part", "is_part", defArgs s_is_part, defBody s_is_part, defScope s_is_part, [], []⟩
def dd_check_part : He.DefD := ⟨("check_part", none), "check_part", "check_part", defArgs s_check_part, defBody s_check_part, defScope s_check_part, [], []⟩
def dd_check_handed : He.DefD := ⟨("check_handed", none), "check_handed", "check_handed", defArgs s_check_handed, defBody s_check_handed, defScope s_check_handed, [], []⟩
def dd_lines_of : He.DefD := ⟨("lines_of", none), "lines_of", "lines_of", defArgs s_lines_of, defBody s_lines_of, defScope s_lines_of, [], []⟩
def dd_is_next_region : He.DefD := ⟨("is_next_region", none), "is_next_region", "is_next_region", defArgs s_is_next_region, defBody s_is_next_region, defScope s_is_next_region, [], []⟩
def dd_whole_in : He.DefD := ⟨("whole_in", none), "whole_in", "whole_in", defArgs s_whole_in, defBody s_whole_in, defScope s_whole_in, [], []⟩
def dd_ratio_in : He.DefD := ⟨("ratio_in", none), "ratio_in", "ratio_in", defArgs s_ratio_in, defBody s_ratio_in, defScope s_ratio_in, [], []⟩
def dd_step_in : He.DefD := ⟨("step_in", none), "step_in", "step_in", defArgs s_step_in, defBody s_step_in, defScope s_step_in, [], []⟩
def dd_least_of_region : He.DefD := ⟨("least_of_region", none), "least_of_region", "least_of_region", defArgs s_least_of_region, defBody s_least_of_region, defScope s_least_of_region, [], []⟩
def dd_is_integer : He.DefD := ⟨("is_integer", none), "is_integer", "is_integer", defArgs s_is_integer, defBody s_is_integer, defScope s_is_integer, [], []⟩
def dd_can_stand : He.DefD := ⟨("can_stand", none), "can_stand", "can_stand", defArgs s_can_stand, defBody s_can_stand, defScope s_can_stand, [], []⟩
def dd_has_step : He.DefD := ⟨("has_step", none), "has_step", "has_step", defArgs s_has_step, defBody s_has_step, defScope s_has_step, [], []⟩
def dd_does_step_stand : He.DefD := ⟨("does_step_stand", none), "does_step_stand", "does_step_stand", defArgs s_does_step_stand, defBody s_does_step_stand, defScope s_does_step_stand, [], []⟩
def dd_regions_in : He.DefD := ⟨("regions_in", none), "regions_in", "regions_in", defArgs s_regions_in, defBody s_regions_in, defScope s_regions_in, [], []⟩
def dd_ratio_word : He.DefD := ⟨("ratio_word", none), "ratio_word", "ratio_word", defArgs s_ratio_word, defBody s_ratio_word, defScope s_ratio_word, [], []⟩
def dd_region_rows : He.DefD := ⟨("region_rows", none), "region_rows", "region_rows", defArgs s_region_rows, defBody s_region_rows, defScope s_region_rows, [], []⟩
def dd_book_of : He.DefD := ⟨("book_of", none), "book_of", "book_of", defArgs s_book_of, defBody s_book_of, defScope s_book_of, [], []⟩
def dd_less : He.DefD := ⟨("less", none), "less", "less", defArgs s_less, defBody s_less, defScope s_less, [], []⟩
def dd_filled : He.DefD := ⟨("filled", none), "filled", "filled", defArgs s_filled, defBody s_filled, defScope s_filled, [], []⟩
def dd_made : He.DefD := ⟨("made", none), "made", "made", defArgs s_made, defBody s_made, defScope s_made, [], []⟩
def dd_coming_of : He.DefD := ⟨("coming_of", none), "coming_of", "coming_of", defArgs s_coming_of, defBody s_coming_of, defScope s_coming_of, [], []⟩
def dd_times : He.DefD := ⟨("times", none), "times", "times", defArgs s_times, defBody s_times, defScope s_times, [], []⟩
def dd_handed_on : He.DefD := ⟨("handed_on", none), "handed_on", "handed_on", defArgs s_handed_on, defBody s_handed_on, defScope s_handed_on, [], []⟩
def dd__law_frac_sum : He.DefD := ⟨("_law_frac_sum", none), "_law_frac_sum", "_law_frac_sum", defArgs s__law_frac_sum, defBody s__law_frac_sum, defScope s__law_frac_sum, [], []⟩
def dd__law_book_drift : He.DefD := ⟨("_law_book_drift", none), "_law_book_drift", "_law_book_drift", defArgs s__law_book_drift, defBody s__law_book_drift, defScope s__law_book_drift, [], []⟩
def dd__law_book_turns : He.DefD := ⟨("_law_book_turns", none), "_law_book_turns", "_law_book_turns", defArgs s__law_book_turns, defBody s__law_book_turns, defScope s__law_book_turns, [], []⟩
def dd__law_book_sides : He.DefD := ⟨("_law_book_sides", none), "_law_book_sides", "_law_book_sides", defArgs s__law_book_sides, defBody s__law_book_sides, defScope s__law_book_sides, [], []⟩
def dd__law_book_border : He.DefD := ⟨("_law_book_border", none), "_law_book_border", "_law_book_border", defArgs s__law_book_border, defBody s__law_book_border, defScope s__law_book_border, [], []⟩
def dd__law_rows : He.DefD := ⟨("_law_rows", none), "_law_rows", "_law_rows", defArgs s__law_rows, defBody s__law_rows, defScope s__law_rows, [], []⟩
def dd__law_handed : He.DefD := ⟨("_law_handed", none), "_law_handed", "_law_handed", defArgs s__law_handed, defBody s__law_handed, defScope s__law_handed, [], []⟩
def dd__law_frac_over : He.DefD := ⟨("_law_frac_over", none), "_law_frac_over", "_law_frac_over", defArgs s__law_frac_over, defBody s__law_frac_over, defScope s__law_frac_over, [], []⟩
def dd__law_loads : He.DefD := ⟨("_law_loads", none), "_law_loads", "_law_loads", defArgs s__law_loads, defBody s__law_loads, defScope s__law_loads, [], []⟩
def dd__law_book_regions : He.DefD := ⟨("_law_book_regions", none), "_law_book_regions", "_law_book_regions", defArgs s__law_book_regions, defBody s__law_book_regions, defScope s__law_book_regions, [], []⟩
def dd__law_frac_text : He.DefD := ⟨("_law_frac_text", none), "_law_frac_text", "_law_frac_text", defArgs s__law_frac_text, defBody s__law_frac_text, defScope s__law_frac_text, [], []⟩
def dd__law_book_text : He.DefD := ⟨("_law_book_text", none), "_law_book_text", "_law_book_text", defArgs s__law_book_text, defBody s__law_book_text, defScope s__law_book_text, [], []⟩
def dd_over : He.DefD := ⟨("over", none), "over", "over", defArgs s_over, defBody s_over, defScope s_over, [], []⟩
def dd_loads : He.DefD := ⟨("loads", none), "loads", "loads", defArgs s_loads, defBody s_loads, defScope s_loads, [], []⟩
def dd__law_frac_product : He.DefD := ⟨("_law_frac_product", none), "_law_frac_product", "_law_frac_product", defArgs s__law_frac_product, defBody s__law_frac_product, defScope s__law_frac_product, [], []⟩
def dd__law_are_turns_right : He.DefD := ⟨("_law_are_turns_right", none), "_law_are_turns_right", "_law_are_turns_right", defArgs s__law_are_turns_right, defBody s__law_are_turns_right, defScope s__law_are_turns_right, [], []⟩
def dd_is_string : He.DefD := ⟨("is_string", none), "is_string", "is_string", defArgs s_is_string, defBody s_is_string, defScope s_is_string, [], []⟩
def dd_check_region : He.DefD := ⟨("check_region", none), "check_region", "check_region", defArgs s_check_region, defBody s_check_region, defScope s_check_region, [], []⟩
def dd_region_steps : He.DefD := ⟨("region_steps", none), "region_steps", "region_steps", defArgs s_region_steps, defBody s_region_steps, defScope s_region_steps, [], []⟩
def dd_steps_of : He.DefD := ⟨("steps_of", none), "steps_of", "steps_of", defArgs s_steps_of, defBody s_steps_of, defScope s_steps_of, [], []⟩
def dd_drift : He.DefD := ⟨("drift", none), "drift", "drift", defArgs s_drift, defBody s_drift, defScope s_drift, [], []⟩
def dd_asked_sides : He.DefD := ⟨("asked_sides", none), "asked_sides", "asked_sides", defArgs s_asked_sides, defBody s_asked_sides, defScope s_asked_sides, [], []⟩
def dd_turns : He.DefD := ⟨("turns", none), "turns", "turns", defArgs s_turns, defBody s_turns, defScope s_turns, [], []⟩
def dd_border : He.DefD := ⟨("border", none), "border", "border", defArgs s_border, defBody s_border, defScope s_border, [], []⟩
def dd__law_frac_is_less : He.DefD := ⟨("_law_frac_is_less", none), "_law_frac_is_less", "_law_frac_is_less", defArgs s__law_frac_is_less, defBody s__law_frac_is_less, defScope s__law_frac_is_less, [], []⟩
def dd_check_plain : He.DefD := ⟨("check_plain", none), "check_plain", "check_plain", defArgs s_check_plain, defBody s_check_plain, defScope s_check_plain, [], []⟩
def dd_asked : He.DefD := ⟨("asked", none), "asked", "asked", defArgs s_asked, defBody s_asked, defScope s_asked, [], []⟩
def dd_does_come_home : He.DefD := ⟨("does_come_home", none), "does_come_home", "does_come_home", defArgs s_does_come_home, defBody s_does_come_home, defScope s_does_come_home, [], []⟩
def dd__law_right : He.DefD := ⟨("_law_right", none), "_law_right", "_law_right", defArgs s__law_right, defBody s__law_right, defScope s__law_right, [], []⟩
def dd__law_pot : He.DefD := ⟨("_law_pot", none), "_law_pot", "_law_pot", defArgs s__law_pot, defBody s__law_pot, defScope s__law_pot, [], []⟩
def dd__law_cells : He.DefD := ⟨("_law_cells", none), "_law_cells", "_law_cells", defArgs s__law_cells, defBody s__law_cells, defScope s__law_cells, [], []⟩
def dd_law : He.DefD := ⟨("law", none), "law", "law", defArgs s_law, defBody s_law, defScope s_law, [], []⟩
def dd_init_Book : He.DefD := ⟨("Book", some "__init__"), "__init__", "Book.__init__", defArgs s_Book, defBody s_Book, defScope s_Book, [], []⟩
def fn : List He.DefD := [dd__law_frac_common, dd__law_frac, dd__law_take, dd__law_parts, dd__law_frac_times, dd__law_part, dd__law_frac_plus, dd__law_frac_less, dd__law_told, dd_common, dd_ratio, dd_plus, dd_total, dd_is_whole, dd_is_ratio, dd_is_size, dd_check_chances, dd_is_rate, dd_is_below, dd_is_part, dd_check_part, dd_check_handed, dd_lines_of, dd_is_next_region, dd_whole_in, dd_ratio_in, dd_step_in, dd_least_of_region, dd_is_integer, dd_can_stand] ++ [dd_has_step, dd_does_step_stand, dd_regions_in, dd_ratio_word, dd_region_rows, dd_book_of, dd_less, dd_filled, dd_made, dd_coming_of, dd_times, dd_handed_on, dd__law_frac_sum, dd__law_book_drift, dd__law_book_turns, dd__law_book_sides, dd__law_book_border, dd__law_rows, dd__law_handed, dd__law_frac_over, dd__law_loads, dd__law_book_regions, dd__law_frac_text, dd__law_book_text, dd_over, dd_loads, dd__law_frac_product, dd__law_are_turns_right, dd_is_string, dd_check_region] ++ [dd_region_steps, dd_steps_of, dd_drift, dd_asked_sides, dd_turns, dd_border, dd__law_frac_is_less, dd_check_plain, dd_asked, dd_does_come_home, dd__law_right, dd__law_pot, dd__law_cells, dd_law, dd_init_Book]
def fa : List He.Fa := [.glo "_law_frac_common", .glo "_law_frac", .glo "_law_take", .glo "_law_parts", .glo "_law_frac_times", .glo "_law_part", .glo "_law_frac_plus", .glo "_law_frac_less", .glo "_law_told", .glo "common", .glo "ratio", .glo "plus", .glo "total", .glo "is_whole", .glo "is_ratio", .glo "is_size", .glo "check_chances", .glo "is_rate", .glo "is_below", .glo "is_part", .glo "check_part", .glo "check_handed", .glo "lines_of", .glo "is_next_region", .glo "whole_in", .glo "ratio_in", .glo "step_in", .glo "least_of_region", .glo "is_integer", .glo "can_stand"] ++ [.glo "has_step", .glo "does_step_stand", .glo "regions_in", .glo "ratio_word", .glo "region_rows", .glo "book_of", .glo "less", .glo "filled", .glo "made", .glo "coming_of", .glo "times", .glo "handed_on", .glo "_law_frac_sum", .glo "_law_book_drift", .glo "_law_book_turns", .glo "_law_book_sides", .glo "_law_book_border", .glo "_law_rows", .glo "_law_handed", .glo "_law_frac_over", .glo "_law_loads", .glo "_law_book_regions", .glo "_law_frac_text", .glo "_law_book_text", .glo "over", .glo "loads", .glo "_law_frac_product", .glo "_law_are_turns_right", .glo "is_string", .glo "check_region"] ++ [.glo "region_steps", .glo "steps_of", .glo "drift", .glo "asked_sides", .glo "turns", .glo "border", .glo "_law_frac_is_less", .glo "check_plain", .glo "asked", .glo "does_come_home", .glo "_law_right", .glo "_law_pot", .glo "_law_cells", .glo "law", .free "abs", .free "int", .free "range", .free "sum", .free "isinstance", .free "bool", .free "tuple", .free "len", .free "all", .free "enumerate", .free "str", .free "zip", .free "list", .free "dict", .free "repr", .free "min"] ++ [.free "max", .int "PAIR_ratios" (2), .glo "ONE", .str "FEED" "\n", .str "BLANK" " ", .int "FOUR" (4), .glo "REGIONS", .str "MINUS" "-", .int "MOST_FIGURES" (4000), .str "FIGURES" "0123456789", .str "OVER" "/", .str "STEP" "step", .glo "WORDS", .int "PAIR_books" (2), .str "NONE" "none", .str "FIRST" "first", .str "SECOND" "second", .int "MOST_GROWN" (3), .int "MOST_STEPS" (12), .str "BOOK" "book", .glo "NOUGHT", .glo "REST", .str "INSIDE" "inside", .str "BORDER_Y" "y", .str "BORDER_X" "x", .str "SECOND_TURN" "second turn", .str "FIRST_TURN" "first turn", .glo "Book", .mkr "Book"]
def ex (K : PySem.W.Frag) : Bool := [tupN K "ONE" [.int (1), .int (1)], tupN K "REGIONS" [.str "inside", .str "first", .str "second", .str "none"], tupN K "WORDS" [.str "-1", .str "0", .str "1", .str "2", .str "3"], tupN K "NOUGHT" [.int (0), .int (1)], tupN K "REST" [.int (0), .int (0)], sclsB K "Book", slotB K "Book" "own_regions" 0, slotB K "Book" "own_text" 1, propB K "Book" "text" "Book.text"].all fun b => b
def loose : List Str := [("OVER" : Str), ("FIGURES" : Str), ("MINUS" : Str), ("PAIR_ratios" : Str), ("NOUGHT" : Str), ("ONE" : Str), ("MOST_FIGURES" : Str), ("FEED" : Str), ("BLANK" : Str), ("BOOK" : Str), ("STEP" : Str), ("INSIDE" : Str), ("FIRST" : Str), ("SECOND" : Str), ("NONE" : Str), ("REGIONS" : Str), ("WORDS" : Str), ("MOST_GROWN" : Str), ("MOST_STEPS" : Str), ("FOUR" : Str), ("PAIR_books" : Str), ("REST" : Str), ("BORDER_X" : Str), ("BORDER_Y" : Str), ("FIRST_TURN" : Str), ("SECOND_TURN" : Str), ("is_whole" : Str), ("common" : Str), ("ratio" : Str), ("plus" : Str)] ++ [("less" : Str), ("times" : Str), ("over" : Str), ("is_below" : Str), ("total" : Str), ("is_ratio" : Str), ("is_size" : Str), ("is_rate" : Str), ("whole_in" : Str), ("ratio_in" : Str), ("ratio_word" : Str), ("is_integer" : Str), ("is_string" : Str), ("is_part" : Str), ("lines_of" : Str), ("DriftError" : Str), ("BadBook" : Str), ("NoRegion" : Str), ("BadShare" : Str), ("Border" : Str), ("BadChances" : Str), ("Loop" : Str), ("least_of_region" : Str), ("can_stand" : Str), ("step_in" : Str), ("has_step" : Str), ("does_step_stand" : Str), ("is_next_region" : Str), ("regions_in" : Str), ("region_rows" : Str)] ++ [("book_of" : Str), ("Book" : Str), ("check_region" : Str), ("region_steps" : Str), ("steps_of" : Str), ("check_chances" : Str), ("check_part" : Str), ("filled" : Str), ("made" : Str), ("coming_of" : Str), ("check_handed" : Str), ("handed_on" : Str), ("loads" : Str), ("drift" : Str), ("turns" : Str), ("asked_sides" : Str), ("border" : Str), ("check_plain" : Str), ("asked" : Str), ("does_come_home" : Str), ("_law_pot" : Str), ("_law_take" : Str), ("_law_cells" : Str), ("_law_frac_common" : Str), ("_law_frac" : Str), ("_law_frac_plus" : Str), ("_law_frac_less" : Str), ("_law_frac_times" : Str), ("_law_frac_over" : Str), ("_law_frac_is_less" : Str)] ++ [("_law_frac_sum" : Str), ("_law_frac_product" : Str), ("_law_frac_text" : Str), ("_law_book_regions" : Str), ("_law_book_text" : Str), ("_law_book_drift" : Str), ("_law_book_turns" : Str), ("_law_book_sides" : Str), ("_law_book_border" : Str), ("_law_rows" : Str), ("_law_parts" : Str), ("_law_part" : Str), ("_law_handed" : Str), ("_law_loads" : Str), ("_law_told" : Str), ("_law_are_turns_right" : Str), ("_law_right" : Str)]
abbrev R : PySem.W.OpenRow := PySem.W.OpenLaw.row PySem.Challenge.rw_cornerdrifts_k43_whole_queues_handed_on
def pp : List PropD := [⟨"Book", "text", "text", "Book.text", defArgs s_Book_text, defBody s_Book_text, defScope s_Book_text⟩]
abbrev hk : PySem.W.Hook := hookP fa fn ex pp
def ob (s : PySem.W.SharedT) : He.AlX × List He.FnW := obsP fa fn ex pp (HandSHeadRun.getT s)
theorem ob_eq (s : PySem.W.SharedT) : ob s = hk.obs s.abs := obsP_eq (HandSHeadRun.getT_eq s)
theorem run (w : World) : HandSHeadRun.RunEq R (PySem.W.view R.prog [114]) hk ob 6000 loose w := by
  intro os
  kernel_rfl
def clF (K : PySem.W.Frag) : Nat → Addr := fun c => match c with
  | 0 => He.ga K "Book"
  | _ => 0
theorem dat {w : World} {K : PySem.W.Frag} {h : Heap} {mg : Str → Option Value} (X : K.In h) (G : h.Ns mainGlobals mg) (c0 : saysP fa fn ex pp w h K) : Dat K (clF K) mg :=
  have exm : ∀ (i : Nat) {b : Bool}, [tupN K "ONE" [.int (1), .int (1)], tupN K "REGIONS" [.str "inside", .str "first", .str "second", .str "none"], tupN K "WORDS" [.str "-1", .str "0", .str "1", .str "2", .str "3"], tupN K "NOUGHT" [.int (0), .int (1)], tupN K "REST" [.int (0), .int (0)], sclsB K "Book", slotB K "Book" "own_regions" 0, slotB K "Book" "own_text" 1, propB K "Book" "text" "Book.text"][i]? = some b → b = true := fun i b e => List.all_eq_true.mp c0.1.more b (List.mem_of_getElem? e)
  have c := c0.1
  { d__law_frac_common := def_of X G c.t.d 0 0 rfl rfl,
    n_abs := He.free_ok X G (c.t.d.fact 74 rfl),
    n_int := He.free_ok X G (c.t.d.fact 75 rfl),
    d__law_frac := def_of X G c.t.d 1 1 rfl rfl,
    d__law_take := def_of X G c.t.d 2 2 rfl rfl,
    d__law_parts := def_of X G c.t.d 3 3 rfl rfl,
    n_range := He.free_ok X G (c.t.d.fact 76 rfl),
    n_sum := He.free_ok X G (c.t.d.fact 77 rfl),
    d__law_frac_times := def_of X G c.t.d 4 4 rfl rfl,
    d__law_part := def_of X G c.t.d 5 5 rfl rfl,
    d__law_frac_plus := def_of X G c.t.d 6 6 rfl rfl,
    d__law_frac_less := def_of X G c.t.d 7 7 rfl rfl,
    d__law_told := def_of X G c.t.d 8 8 rfl rfl,
    d_common := def_of X G c.t.d 9 9 rfl rfl,
    d_ratio := def_of X G c.t.d 10 10 rfl rfl,
    d_plus := def_of X G c.t.d 11 11 rfl rfl,
    d_total := def_of X G c.t.d 12 12 rfl rfl,
    d_is_whole := def_of X G c.t.d 13 13 rfl rfl,
    n_isinstance := He.free_ok X G (c.t.d.fact 78 rfl),
    n_bool := He.free_ok X G (c.t.d.fact 79 rfl),
    d_is_ratio := def_of X G c.t.d 14 14 rfl rfl,
    n_tuple := He.free_ok X G (c.t.d.fact 80 rfl),
    n_len := He.free_ok X G (c.t.d.fact 81 rfl),
    g_PAIR_ratios := He.int_ok X G (c.t.d.fact 91 rfl),
    n_all := He.free_ok X G (c.t.d.fact 82 rfl),
    d_is_size := def_of X G c.t.d 15 15 rfl rfl,
    d_check_chances := def_of X G c.t.d 16 16 rfl rfl,
    g_ONE := tup_of X G c.t.d 92 rfl (exm 0 rfl) rfl,
    d_is_rate := def_of X G c.t.d 17 17 rfl rfl,
    d_is_below := def_of X G c.t.d 18 18 rfl rfl,
    d_is_part := def_of X G c.t.d 19 19 rfl rfl,
    d_check_part := def_of X G c.t.d 20 20 rfl rfl,
    d_check_handed := def_of X G c.t.d 21 21 rfl rfl,
    d_lines_of := def_of X G c.t.d 22 22 rfl rfl,
    g_FEED := He.str_ok X G (c.t.d.fact 93 rfl),
    g_BLANK := He.str_ok X G (c.t.d.fact 94 rfl),
    d_is_next_region := def_of X G c.t.d 23 23 rfl rfl,
    g_FOUR := He.int_ok X G (c.t.d.fact 95 rfl),
    g_REGIONS := tup_of X G c.t.d 96 rfl (exm 1 rfl) rfl,
    d_whole_in := def_of X G c.t.d 24 24 rfl rfl,
    g_MINUS := He.str_ok X G (c.t.d.fact 97 rfl),
    g_MOST_FIGURES := He.int_ok X G (c.t.d.fact 98 rfl),
    g_FIGURES := He.str_ok X G (c.t.d.fact 99 rfl),
    d_ratio_in := def_of X G c.t.d 25 25 rfl rfl,
    g_OVER := He.str_ok X G (c.t.d.fact 100 rfl),
    d_step_in := def_of X G c.t.d 26 26 rfl rfl,
    g_STEP := He.str_ok X G (c.t.d.fact 101 rfl),
    g_WORDS := tup_of X G c.t.d 102 rfl (exm 2 rfl) rfl,
    g_PAIR_books := He.int_ok X G (c.t.d.fact 103 rfl),
    d_least_of_region := def_of X G c.t.d 27 27 rfl rfl,
    g_NONE := He.str_ok X G (c.t.d.fact 104 rfl),
    g_FIRST := He.str_ok X G (c.t.d.fact 105 rfl),
    g_SECOND := He.str_ok X G (c.t.d.fact 106 rfl),
    d_is_integer := def_of X G c.t.d 28 28 rfl rfl,
    d_can_stand := def_of X G c.t.d 29 29 rfl rfl,
    g_MOST_GROWN := He.int_ok X G (c.t.d.fact 107 rfl),
    d_has_step := def_of X G c.t.d 30 30 rfl rfl,
    g_MOST_STEPS := He.int_ok X G (c.t.d.fact 108 rfl),
    d_does_step_stand := def_of X G c.t.d 31 31 rfl rfl,
    g_BOOK := He.str_ok X G (c.t.d.fact 109 rfl),
    n_enumerate := He.free_ok X G (c.t.d.fact 83 rfl),
    d_regions_in := def_of X G c.t.d 32 32 rfl rfl,
    n_str := He.free_ok X G (c.t.d.fact 84 rfl),
    m_Book := defM_of c.t.d 74 118 rfl rfl rfl,
    sc_Book := sclsB_ok (exm 5 rfl),
    sl_Book_own_regions := slotB_ok (exm 6 rfl),
    sl_Book_own_text := slotB_ok (exm 7 rfl),
    d_ratio_word := def_of X G c.t.d 33 33 rfl rfl,
    d_region_rows := def_of X G c.t.d 34 34 rfl rfl,
    d_book_of := def_of X G c.t.d 35 35 rfl rfl,
    n_zip := He.free_ok X G (c.t.d.fact 85 rfl),
    c_Book := He.glo_ok X G (c.t.d.fact 117 rfl),
    d_less := def_of X G c.t.d 36 36 rfl rfl,
    d_filled := def_of X G c.t.d 37 37 rfl rfl,
    g_NOUGHT := tup_of X G c.t.d 110 rfl (exm 3 rfl) rfl,
    g_REST := tup_of X G c.t.d 111 rfl (exm 4 rfl) rfl,
    d_made := def_of X G c.t.d 38 38 rfl rfl,
    d_coming_of := def_of X G c.t.d 39 39 rfl rfl,
    d_times := def_of X G c.t.d 40 40 rfl rfl,
    d_handed_on := def_of X G c.t.d 41 41 rfl rfl,
    d__law_frac_sum := def_of X G c.t.d 42 42 rfl rfl,
    d__law_book_drift := def_of X G c.t.d 43 43 rfl rfl,
    d__law_book_turns := def_of X G c.t.d 44 44 rfl rfl,
    d__law_book_sides := def_of X G c.t.d 45 45 rfl rfl,
    d__law_book_border := def_of X G c.t.d 46 46 rfl rfl,
    d__law_rows := def_of X G c.t.d 47 47 rfl rfl,
    d__law_handed := def_of X G c.t.d 48 48 rfl rfl,
    d__law_frac_over := def_of X G c.t.d 49 49 rfl rfl,
    d__law_loads := def_of X G c.t.d 50 50 rfl rfl,
    d__law_book_regions := def_of X G c.t.d 51 51 rfl rfl,
    d__law_frac_text := def_of X G c.t.d 52 52 rfl rfl,
    d__law_book_text := def_of X G c.t.d 53 53 rfl rfl,
    d_over := def_of X G c.t.d 54 54 rfl rfl,
    d_loads := def_of X G c.t.d 55 55 rfl rfl,
    d__law_frac_product := def_of X G c.t.d 56 56 rfl rfl,
    d__law_are_turns_right := def_of X G c.t.d 57 57 rfl rfl,
    d_is_string := def_of X G c.t.d 58 58 rfl rfl,
    d_check_region := def_of X G c.t.d 59 59 rfl rfl,
    d_region_steps := def_of X G c.t.d 60 60 rfl rfl,
    d_steps_of := def_of X G c.t.d 61 61 rfl rfl,
    d_drift := def_of X G c.t.d 62 62 rfl rfl,
    d_asked_sides := def_of X G c.t.d 63 63 rfl rfl,
    g_INSIDE := He.str_ok X G (c.t.d.fact 112 rfl),
    d_turns := def_of X G c.t.d 64 64 rfl rfl,
    d_border := def_of X G c.t.d 65 65 rfl rfl,
    g_BORDER_Y := He.str_ok X G (c.t.d.fact 113 rfl),
    g_BORDER_X := He.str_ok X G (c.t.d.fact 114 rfl),
    g_SECOND_TURN := He.str_ok X G (c.t.d.fact 115 rfl),
    g_FIRST_TURN := He.str_ok X G (c.t.d.fact 116 rfl),
    d__law_frac_is_less := def_of X G c.t.d 66 66 rfl rfl,
    d_check_plain := def_of X G c.t.d 67 67 rfl rfl,
    d_asked := def_of X G c.t.d 68 68 rfl rfl,
    d_does_come_home := def_of X G c.t.d 69 69 rfl rfl,
    n_list := He.free_ok X G (c.t.d.fact 86 rfl),
    n_dict := He.free_ok X G (c.t.d.fact 87 rfl),
    d__law_right := def_of X G c.t.d 70 70 rfl rfl,
    n_repr := He.free_ok X G (c.t.d.fact 88 rfl),
    d__law_pot := def_of X G c.t.d 71 71 rfl rfl,
    d__law_cells := def_of X G c.t.d 72 72 rfl rfl,
    n_min := He.free_ok X G (c.t.d.fact 89 rfl),
    n_max := He.free_ok X G (c.t.d.fact 90 rfl),
    d_law := def_of X G c.t.d 73 73 rfl rfl,
    p_Book_text := prop_of c0.2 0 rfl (exm 8 rfl) }
end K43
open PySem PySem.W PySem.Calls PyProof.Rows
set_option maxHeartbeats 0 in
theorem PySem.Challenge.cw_cornerdrifts_k43_whole_queues_handed_on_holds : PySem.Challenge.rw_cornerdrifts_k43_whole_queues_handed_on.Holds := by
  w_on; o_law
  refine HandSHeadRun.head_any (r := OpenLaw.row PySem.Challenge.rw_cornerdrifts_k43_whole_queues_handed_on) (q := view (OpenLaw.row PySem.Challenge.rw_cornerdrifts_k43_whole_queues_handed_on).prog [114]) (H := K43.hk) (ob := K43.ob) (M := 6000) (loose := K43.loose) (d := HandSHeadRun.topDef (OpenLaw.row PySem.Challenge.rw_cornerdrifts_k43_whole_queues_handed_on).prog 114) (kwd := []) K43.ob_eq
    (by kernel_rfl) (fun s => by kernel_rfl) K43.run (by kernel_rfl) (by kernel_rfl) (by kernel_rfl) (by rfl) (by first | assumption | decide +kernel) (by decide +kernel) ⟨rfl, rfl, rfl, rfl, rfl, by decide +kernel⟩ ?hw ?hc
  case hw => w_witness2
  case hc =>
    refine DF.walk_ofE (l := PySem.Challenge.rw_cornerdrifts_k43_whole_queues_handed_on) (n := 63) (k := 13) (x := "script") (CX := L2.CX0) rfl (by decide) (by kernel_rfl) ⟨rfl, by decide, by decide⟩ ?F (fun _ _ _ _ z => z)
    intro w mg fa h Y G hmg0
    obtain ⟨K, KX, c⟩ := Y
    have hmg : mg ("law" : PySem.Str) = some (.ref fa) := by
      have e : (HandSHeadRun.topDef (OpenLaw.row PySem.Challenge.rw_cornerdrifts_k43_whole_queues_handed_on).prog 114).name = ("law" : PySem.Str) := by kernel_rfl
      rw [← e]
      exact hmg0
    have D := K43.dat KX G c
    obtain ⟨f, fd, g, FD, hF⟩ := DF.ok_base (P := (PySem.Challenge.rw_cornerdrifts_k43_whole_queues_handed_on).prog) (w := w) D.d_law fun base => K43.ok_law D
    rw [hmg] at g; cases g
    have b := L2.FunD.bindsA (ps := ["script"]) FD fun _ _ _ _ _ _ us hl => match us, hl with | [_], _ => rfl
    exact ⟨K, fd, DF.spF K (K43.clF K) 1 Mi.m_law, KX, fun s v => b s [v] rfl, fun H a nl hl _ hS => DF.sp_law (K43.law_true nl hl) hS, fun base _ _ => hF base⟩
