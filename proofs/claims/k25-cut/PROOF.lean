import PyProof.Rows.All
import Wide.All
import OpenK.AllK
import Wide.FinOn
import KE.GoesMore
import PyProof.ReprRoads
import HandS.ForMost
import HandS.Exc
import HandS.ExcOwn
import HandS.TryOnly
import HandS.IsInst
import HandS.ExcIs
import HandS.Deep
import HandS.Lambda
import HandS.Walk
import HandS.Defaults
import HandS.HeadHook4
import HandS.HeadWalk
import HandS.EndTab
import HandS.Property
import KE.KIntText
import PyProof.ReprBulk
import PyProof.EqLayable
import PySem.Challenge.RW_ownharm_k25_whole_runs_cut_anywhere
import HandS.WideMore
import HandS.Style
import HandS.Sort
import HandS.WordsExc
import HandS.Head0
import HandS.Head1
import HandS.Head2
import HandS.HeadEnd
set_option Elab.async false
set_option linter.all false
set_option maxRecDepth 100000
set_option maxHeartbeats 2000000
/-! own rules -/
namespace K25
open PySem PySem.Spec PyProof.Rows L2
/-! ### an attribute as a target within a tuple of targets -/
section
variable {X : Cx} {o : Expr} {f : Str} {pos : Pos} {ta : TE}
def gAttr (K : PySem.W.Frag) (ta : TE) (f : Str) : TG := fun v σ H Q => ta σ H fun x H1 => ∃ (a C dx : Addr) (fs : List (Str × V)), x = .ref a ∧ H1 a = some (.ins C dx fs) ∧ Cls K C ∧ NoAttr K C f ∧ fs.length < 1000 ∧ Q σ (upd H1 a (.ins C dx (putF f v fs)))
theorem pg_attr (ho : PE X o ta) : PG X (.Attribute o f pos) (gAttr X.K ta f) := by
  refine ⟨fun pins s σ H v u Q I r h => ?_⟩
  show wpAny _ _ (do
    let ov ← holding [u] (eval o X.env)
    standAt pos.atName
    holding [u, ov] (setAttr ov f u)
    release [u, ov] []) _ _ _
  refine wpAny_bind (wpAny_holding (thn (ho.run pins s σ H _ I h) fun ov s1 ⟨x, H1, I1, r1, q1⟩ => ?_))
  obtain ⟨a, C, dx, fs, rfl, ea, c, n, l, q⟩ := q1
  obtain rfl : ov = Value.ref a := r1
  exact wpAny_bind (wpAny_standAt (wpAny_bind (wpAny_holding (setattr_ok I1 ea c n l r fun s2 I2 => wpAny_release ⟨σ, _, I2, q⟩))))
end

/-! ### in, not in over a tuple of data -/
section
variable {X : Cx}
def rNotInDT (K : PySem.W.Frag) : R2 := fun x y H Q => ∃ (d : PyData) (ds : List PyData), Dp K H x d ∧ Dp K H y (.tuple ds) ∧ SeqAt.shaped d = true ∧ SeqAt.shaped (.tuple ds) = true ∧ Q (.bl (!ds.any fun z => PyData.eqv z d)) H
theorem op_notInDT (hu : X.A.units + 65 < cLine) : OpR X (compareOp .NotIn) (rNotInDT X.K) := by
  intro pins s σ H x y v u Q I rx ry h
  obtain ⟨d, ds, hd, he, sd, se, q⟩ := h
  obtain ⟨as, r1⟩ := Dp.reads I d x v hd rx
  obtain ⟨bs, r2⟩ := Dp.reads I (.tuple ds) y u he ry
  exact SeqAt.notIn_tuple_reads r2 r1 (SeqAt.canLay_of_shaped se) (SeqAt.canLay_of_shaped sd) (room_in_shaped sd hu) ⟨.bl _, H, I, rfl, q⟩
end

/-! ### repr of data -/
section
variable {X : Cx}
def rRepr (K : PySem.W.Frag) : List V → Hp → VK → Prop := fun xs H Q => ∃ (a : Addr) (d : PyData), xs = [.ref a] ∧ Dp K H (.ref a) d ∧ d.showable = true ∧ d.hasDict = false ∧ d.depth ≤ 60 ∧ d.shown.length ≤ sizeLine ∧ Q (.str d.shown) H
theorem call_repr_data (hg : X.A.guards = some []) (hu : X.A.units + 64 < cLine) : CallR X (.builtin "repr") (rRepr X.K) := by
  intro pins s σ H xs us Q I r h
  obtain ⟨a, d, rfl, hd, hs, hn, hdep, hz, q⟩ := h
  obtain ⟨u, rfl, ru⟩ := vals1 r
  obtain rfl : u = Value.ref a := ru
  obtain ⟨as, rd⟩ := Dp.reads I d (.ref a) (.ref a) hd rfl
  exact repr_of_reads' rd hs (PyData.noDict_hsm hn) hg (by omega) (fun _ _ e => e) (fun h' u tk hk => ⟨.str _, H, I.kept (t' := tk) hk, ⟨u, rfl⟩, q⟩) hz
end

/-! ### an error held as a value -/
def ErrV (cls : Value) (d : Option Addr) (a : Addr) : HO := .ext fun h => ∃ (oe : Obj) (vs : Array Value), h.get? a = some oe ∧ Zc cls d oe ∧ oe.data = .fields vs
section
variable {X : Cx} {pins : List (Addr × Obj)} {σ : L2.St} {H : Hp} {s : Shared} {a : Addr} {oe : Obj} {vs : Array Value} {cls : Value} {d : Option Addr}
theorem inv_track (I : Inv X pins σ H s) (ha : s.heap.get? a = some oe) (hz : Zc cls d oe) (hd : oe.data = .fields vs) (na : H a = none) (n0 : X.s_0.heap.get? a = none) (nL : a ≠ X.env.locals) (nP : ∀ p ∈ X.pn ++ pins, p.1 ≠ a) :
    Inv X pins σ (upd H a (ErrV cls d a)) s := by
  have ne0 : ∀ b o, X.s_0.heap.get? b = some o → b ≠ a := fun b o e z => by
    rw [z, n0] at e
    cases e
  have neS : ∀ b o, H b = some o → b ≠ a := fun b o e => ne_of_none e na
  refine ⟨I.ok, I.os, I.bare, ⟨I.base.keep, I.base.slot, fun b o e n hb => ?_, I.base.there, fun b xs e => ?_, fun b o u e => ?_, fun b ps e => ?_⟩, I.loc, I.cell, ?_, fun x c e => ?_, fun p hp => ?_, fun b u e => ?_, I.len⟩
  · rw [upd_ne (ne0 b o e)]
    exact I.base.free b o e n hb
  · have q := I.base.tups b xs e
    rw [upd_ne (neS b _ q)]
    exact q
  · have q := I.base.frzs b o u e
    rw [upd_ne (neS b _ q)]
    exact q
  · obtain ⟨m, q⟩ := I.base.tbls b ps e
    exact ⟨m, by rw [upd_ne (neS b _ q)]; exact q⟩
  · rw [upd_ne (Ne.symm nL)]
    exact I.free
  · have nc : c ≠ a := fun z => by
      obtain ⟨v, o, ho, hv⟩ := I.cell x c e
      rw [z, ha] at ho
      cases ho
      rw [hd] at hv
      cases hv
    rw [upd_ne nc]
    exact I.freeC x c e
  · obtain ⟨e, n, r⟩ := I.pin p hp
    exact ⟨e, by rw [upd_ne (nP p hp)]; exact n, r⟩
  · by_cases hb : b = a
    · rw [hb, upd_same] at e
      cases e
      rw [hb]
      exact ⟨⟨oe, vs, ha, hz, hd⟩, ⟨oe, ha⟩, fun _ _ ⟨o, v, q, r⟩ k => ⟨o, v, k o q, r⟩⟩
    · rw [upd_ne hb] at e
      exact (I.hok b u e).stay (fun _ _ _ q => q) (fun c q => by rw [upd_ne (neS c _ q)]; exact q) fun c xs q => by rw [upd_ne (neS c _ q)]; exact q
theorem inv_toSuite (I : Inv X pins σ H s) (a : Addr) : Inv (X.suite a (X.pn ++ pins)) [] σ H s :=
  ⟨I.ok.suite _ _, I.os, I.bare, I.base, I.loc, I.cell, I.free, I.freeC, fun p hp => I.pin p (by rw [List.append_nil] at hp; exact hp), I.hok, I.len⟩
theorem inv_ofSuite {pn' : List (Addr × Obj)} (I : Inv (X.suite a (X.pn ++ pins)) pn' σ H s) (ok : X.Ok) : Inv X pins σ H s :=
  ⟨ok, I.os, I.bare, I.base, I.loc, I.cell, I.free, I.freeC, fun p hp => I.pin p (List.mem_append_left _ hp), I.hok, I.len⟩
end
/-- what the clause wishes of an error of the body: slot i is its name's; the error is tracked from then on -/
def wAsT (K : PySem.W.Frag) (c : Value) (i : Nat) (ts : Addr → TS) (D : Ends) : WX := fun cls d σ H =>
  PySem.W.exmOne K cls c = some true ∧ ∀ a, H a = none → ts a { nx := fun σ' H' => D.nx (σ'.set i none) H', rt := D.rt, bk := fun σ' H' => D.bk (σ'.set i none) H', ct := fun σ' H' => D.ct (σ'.set i none) H' } (σ.set i (some (.ref a))) (upd H a (ErrV cls d a))
section
variable {X : Cx} {x n : Str} {c : Value} {i : Nat} {body suite : List Stmt} {b₀ : Stmt} {np pos pos' : Pos} {tb : WX → TS} {ts : Addr → TS}
/-- try: body except x as n: suite; the suite may keep the error -/
theorem ps_try_asT (hs : X.stack = X.env :: X.outer) (hf : X.env.frame = some X.env.locals) (hex : X.ex = []) (hN : X.N.Nodup) (hi : X.N[i]? = some n) (hln : X.env.kindOf n = some .local) (hc : Names X x c)
    (hb : ∀ (W : WX) (pn : List (Addr × Obj)) (xe : Value → Shared → Prop), Takes (X.tr pn xe) W → PassesOwn (model X.prog X.w) X.A X.env xe → PSs (X.tr pn xe) body (tb W))
    (hsu : ∀ (a : Addr) (pn : List (Addr × Obj)), PSs (X.suite a pn) (b₀ :: suite) (ts a)) :
    PS X (.Try body [.ExceptHandler (some (.Name x np)) (some n) (b₀ :: suite) pos'] [] [] pos) (fun D σ H => tb (wAsT X.K c i ts D) D σ H) := by
  refine ⟨fun pins s σ H D I h => ?_⟩
  have ok := I.ok
  have hfr : X.A.frames = some (X.env :: X.outer) := by rw [ok.frames, hs]
  refine wpAny_Try_except ?_
  refine wpAny_mono ((hb (wAsT X.K c i ts D) (X.pn ++ pins) (fun e s₁ => wpAny (model X.prog X.w) X.A (noteFrame e X.env) (fun _ s₂ => wpAny (model X.prog X.w) X.A (setFlight e none) (fun _ s₃ =>
    wpAny (model X.prog X.w) X.A (handleBy e X.env [.ExceptHandler (some (.Name x np)) (some n) (b₀ :: suite) pos']) (SP X pins D) X.xe s₃) X.xe s₂) X.xe s₁) (fun u s' xx => ?_) PassesOwn.looking).run [] s σ H D (I.toTry _) h) (fun f s1 hsp => ?_) (fun e s1 he => he)
  · obtain ⟨a, B, sI, pins', σ', H', cls, d, rfl, J', nb, up, sky, na, os, ag, hyes, hts⟩ := xx
    have J : Inv X pins σ' H' sI := J'.ofTry ok
    have sky' : Sky B (X.env :: X.outer) a (Zc cls d) X.env.locals s'.heap := by
      rw [← hs]
      exact sky
    show wpAny (model X.prog X.w) X.A (noteFrame (.ref a) X.env) _ _ _
    refine Sky.land Zc.steady hfr hf sky' fun h3 fl3 up3 => ?_
    have J3 : Inv X pins σ' H' { s' with heap := h3 } := J.landed nb fl3.1 (up.trans up3) os ag
    obtain ⟨oe3, vs3, he3, hz3, hd3⟩ := fl3.there
    have nfr : a ∉ frs (X.env :: X.outer) := fun hm => by
      obtain ⟨_, o', e', hnf⟩ := fl3.2.2.1.mem hm
      rw [he3] at e'
      cases e'
      exact hnf _ hd3
    have nfs : a ∉ frs X.stack := by
      rw [hs]
      exact nfr
    have nL : a ≠ X.env.locals := fun z => nfr (List.mem_filterMap.mpr ⟨X.env, List.mem_cons_self, by rw [hf, z]⟩)
    have nF : a ∉ X.fs := fun hm => by
      obtain ⟨e, he, q⟩ := List.mem_filterMap.mp hm
      exact nfr (List.mem_filterMap.mpr ⟨e, List.mem_cons_of_mem _ he, q⟩)
    have noB : B.get? a = none := fl3.2.1
    have nI : sI.heap.get? a = none := by
      cases e : sI.heap.get? a with
      | none => rfl
      | some o =>
        have q := nb a o e nfs
        rw [noB] at q
        cases q
    have n0 : X.s_0.heap.get? a = none := by
      cases e : X.s_0.heap.get? a with
      | none => rfl
      | some o =>
        obtain ⟨o', q⟩ := J.base.there a o e (by rw [hex]; exact fun z => nomatch z)
        rw [nI] at q
        cases q
    have nP : ∀ p ∈ X.pn ++ pins, p.1 ≠ a := fun p hp z => by
      have q := (J.pin p hp).1
      rw [z, nI] at q
      cases q
    have T3 := inv_track J3 he3 hz3 hd3 na n0 nL nP
    have S3 := inv_toSuite T3 a
    refine wpAny_handleBy_cons (codeAny_handlers_test ?_) (by intro q; cases q)
    have LT : PySem.W.Looks (model X.prog X.w) h3 (typeOf (.ref a)) cls := fun A Q E s k q => wpAny_typeOf_ref (k _ _ he3) (by rw [hz3.1]; exact q)
    have LM := PySem.W.exm_one (M := model X.prog X.w) (J3.kIn) LT hyes
    have test : ∀ {Q : Value → Shared → Prop} {E : Value → Shared → Prop}, Q c { s' with heap := h3 } → wpAny (model X.prog X.w) (X.A.mark (some (.ref a))) (eval (.Name x np) X.env) Q E { s' with heap := h3 } := fun {Q E} q => by
      obtain ⟨hg, hdbg, hm | ⟨hm, hv, hnn⟩⟩ := hc
      · exact ld_glob (X := X.suite a (X.pn ++ pins)) S3 hg hm q hdbg
      · exact ld_blt (X := X.suite a (X.pn ++ pins)) S3 hg hm hv q hnn hdbg
    refine test (LM.here ?_)
    refine codeAny_handlers_suite_as ?_
    refine HandSPX.lands_againZ fl3 fun h4 fl4 up4 => ?_
    have J4 : Inv X pins σ' H' { s' with heap := h4 } := J.landed nb fl4.1 ((up.trans up3).trans up4) os ag
    obtain ⟨oe4, vs4, he4, hz4, hd4⟩ := fl4.there
    have S4 := inv_toSuite (inv_track J4 he4 hz4 hd4 na n0 nL nP) a
    refine store_ok (X := X.suite a (X.pn ++ pins)) (v := .ref a) S4 hN hi (.inl hln) rfl (fun s5 S5 => ?_) (.inr hln)
    refine wpAny_mono ((hsu a (X.pn ++ pins)).run [] s5 _ _ _ S5 (hts a na)) (fun f s6 hsp => ?_) (fun _ _ z => False.elim z)
    have end_ : ∀ {σ6 : L2.St} {H6 : Hp} {Q : Shared → Prop}, Inv (X.suite a (X.pn ++ pins)) [] σ6 H6 s6 → (∀ s7, Inv X pins (σ6.set i none) H6 s7 → Q s7) →
        wpAny (model X.prog X.w) X.A (do bindName X.env n .none; unbindBehindTheSuite X.env n pos') (fun _ s7 => Q s7) X.xe s6 := fun {σ6 H6 Q} S6 hq => gone_ok (inv_ofSuite S6 ok) hN hi hln hq
    cases f with
    | next =>
      obtain ⟨σ6, H6, S6, q6⟩ := hsp
      exact end_ S6 fun s7 J7 => ⟨_, _, J7, q6⟩
    | brk =>
      obtain ⟨σ6, H6, S6, q6⟩ := hsp
      exact end_ S6 fun s7 J7 => ⟨_, _, J7, q6⟩
    | cont =>
      obtain ⟨σ6, H6, S6, q6⟩ := hsp
      exact end_ S6 fun s7 J7 => ⟨_, _, J7, q6⟩
    | ret u =>
      obtain ⟨v6, σ6, H6, S6, r6, q6⟩ := hsp
      exact end_ S6 fun s7 J7 => ⟨_, _, _, J7, r6, q6⟩
  · cases f with
    | next =>
      obtain ⟨σ6, H6, S6, q6⟩ := hsp
      exact wpAny_execs_nil ⟨_, _, S6.ofTry ok, q6⟩
    | brk =>
      obtain ⟨σ6, H6, S6, q6⟩ := hsp
      exact ⟨_, _, S6.ofTry ok, q6⟩
    | cont =>
      obtain ⟨σ6, H6, S6, q6⟩ := hsp
      exact ⟨_, _, S6.ofTry ok, q6⟩
    | ret u =>
      obtain ⟨v6, σ6, H6, S6, r6, q6⟩ := hsp
      exact ⟨_, _, _, S6.ofTry ok, r6, q6⟩
end
section
variable {X : Cx}
/-- isinstance(e, c), e a kept error of the class at D -/
def rIsErr (K : PySem.W.Frag) (D : Addr) : List V → Hp → VK → Prop := fun xs H Q => ∃ (a : Addr) (c : V) (cv : Value) (b : Bool), xs = [.ref a, c] ∧ H a = some (ErrV (.ref D) none a) ∧ (∀ u, RelV c u → u = cv) ∧ PySem.W.kitOne K (.ref D) cv = some b ∧ Q (.bl b) H
theorem call_isErr {D : Addr} (C : ExcC X.K D) : CallR X (.builtin "isinstance") (rIsErr X.K D) := by
  intro pins s σ H xs us Q I r h
  obtain ⟨a, c, cv, b, rfl, ha, hcv, e, q⟩ := h
  obtain ⟨u1, u2, rfl, r1, r2⟩ := vals2 r
  obtain rfl : u1 = Value.ref a := r1
  have ec := hcv _ r2
  subst ec
  obtain ⟨⟨oe, vs, hget, hz, hv⟩, _, _⟩ := I.hok a _ ha
  have J : PySem.W.InstAt s.heap a oe D none := by
    obtain ⟨oc, od, oda, osl⟩ := oe
    obtain ⟨h1, h2⟩ := hz
    dsimp only at h1 h2 hv
    subst h1 h2 hv
    exact ⟨hget, rfl, rfl, trivial⟩
  exact PySem.W.kia_one (PySem.W.handS_kitx_exc C.hg C.hk C.hs C.hd C.ha C.hn C.ht C.hm) I.kIn J e (fun z => nomatch z) fun tk => ⟨.bl b, H, I.kept (t' := tk) fun _ _ z => z, rfl, q⟩
end
end K25
set_option maxHeartbeats 2000000
/-! enumerate over a tuple -/
namespace K25
open PySem PySem.Spec PyProof.Rows L2
set_option maxHeartbeats 4000000 in
theorem meets_enum_tup (l : Addr) (items : Array Value) :
    Meets (Builtin.«enumerate.__new__» ⟨[.type "enumerate", .ref l], []⟩) (fun _ R s => s.heap.IsTuple l items ∧
      R (.ok (.ret (.ref (s.heap.push { cls := .type "tuple_iterator", data := .fields #[.ref l, .int 0 0] }).objs.size)))
        { s with heap := (s.heap.push { cls := .type "tuple_iterator", data := .fields #[.ref l, .int 0 0] }).push { cls := .type "enumerate", data := .fields #[.none, .bool false, .ref s.heap.objs.size, rawInt 0, .none, .none] } }) :=
  .of_wp fun prog w A R s h => by
    obtain ⟨hp, g, dr, tk, os⟩ := s
    obtain ⟨h1, h⟩ := h
    have hsub := sub_enumerate
    have q1 : ∀ {A' : Around} {E : Value → Shared → Prop} {Q : Value → Shared → Prop}, Q (.ref hp.objs.size) ⟨hp.push { cls := .type "tuple_iterator", data := .fields #[.ref l, .int 0 0] }, g, dr, tk, os⟩ → wpAny (model prog w) A' (pyIter (.ref l)) Q E ⟨hp, g, dr, tk, os⟩ :=
      fun q => wpAny_pyIter_tuple h1 q
    obtain ⟨ol, hl, hcl, nl, hdl⟩ := id h1
    wp_walk using q1, AutoSeq1.wpAny_loadPart' hl
    refine wpAny_stack_any fun st => wpAny_pure ?_
    split
    · rename_i c _ _ _ _ _
      cases (c == Value.type "enumerate")
      · wp_walk using q1, AutoSeq1.wpAny_loadPart' hl
        exact ⟨_, rfl, h⟩
      · wp_walk using q1, AutoSeq1.wpAny_loadPart' hl
        exact ⟨_, rfl, h⟩
    · wp_walk using q1, AutoSeq1.wpAny_loadPart' hl
      exact ⟨_, rfl, h⟩
theorem call_enum_tup {prog : Program} {w : World} {A : Around} {E : Value → Shared → Prop} {s : Shared} {l : Addr} {items : Array Value} {Q : Value → Shared → Prop} (hL : s.heap.IsTuple l items)
    (h : ∀ h', IsEnum h' (s.heap.objs.size + 1) s.heap.objs.size 0 .none → h'.IsTupleIter s.heap.objs.size l 0 → h'.objs.size = s.heap.objs.size + 2 →
      (∀ b o, s.heap.get? b = some o → h'.get? b = some o) → Q (.ref (s.heap.objs.size + 1)) { s with heap := h' }) :
    wpAny (model prog w) A (call (.type "enumerate") [.ref l]) Q E s := by
  refine callType_new F.called_enumerate (by decide) (F.typeCall_enumerate_1 _) (F.newCall_enumerate_1 _) (fun obj => F.args_object_init_2 obj _) F.entry_enumerate_new
    (meets_enum_tup l items) ⟨hL, ?_⟩
  have hz : (s.heap.push { cls := .type "tuple_iterator", data := .fields #[.ref l, .int 0 0] }).objs.size = s.heap.objs.size + 1 := Heap.size_push ..
  show _ ∧ _
  rw [hz]
  have he : IsEnum ((s.heap.push { cls := .type "tuple_iterator", data := .fields #[.ref l, .int 0 0] }).push
      { cls := .type "enumerate", data := .fields #[.none, .bool false, .ref s.heap.objs.size, rawInt 0, .none, .none] }) (s.heap.objs.size + 1) s.heap.objs.size 0 .none := by
    have := Heap.get?_push_size (s.heap.push { cls := .type "tuple_iterator", data := .fields #[.ref l, .int 0 0] })
      (o := { cls := .type "enumerate", data := .fields #[.none, .bool false, .ref s.heap.objs.size, rawInt 0, .none, .none] }) rfl
    rw [hz] at this
    exact this
  refine ⟨⟨_, he, rfl⟩, h _ he ⟨_, Heap.get?_push_of_some _ (Heap.get?_push_size _ rfl), rfl, rfl⟩ (by rw [Heap.size_push, hz]) fun b o x => Heap.get?_push_of_some _ (Heap.get?_push_of_some _ x)⟩
/-- the tuple at a, each item in a new pair with its index -/
def IteT (K : PySem.W.Frag) (a : Addr) : It :=
  ⟨fun i H => ∃ (xs : List V) (x : V), SqT K H a xs ∧ xs[i]? = some x, fun i H v H' => ∃ T x, v = .ref T ∧ H T = none ∧ H' = upd H T (.tup [.int (i : Nat), x]) ∧ ∀ xs, SqT K H a xs → xs[i]? = some x, fun i H => ∃ xs : List V, SqT K H a xs ∧ xs.length ≤ i⟩
theorem turn_enumT {P : Program} {w : World} {K : PySem.W.Frag} {elts : List Expr} {kk : Nat} {tpos : Pos} (a e it : Addr) :
    Turn P w K (.Tuple elts kk tpos) (IteT K a) [e, it] e (fun i h => (∃ old, IsEnum h e it ((i : Nat) : Int) old) ∧ h.IsTupleIter it a i ∧ e ≠ it) where
  mem := by simp
  obj := fun i h st b hb => by
    obtain ⟨⟨old, he⟩, ⟨o, ho, hc, hd⟩, _⟩ := st
    have e' : b = e ∨ b = it := by simpa using hb
    rcases e' with z | z
    · rw [z]
      exact ⟨_, he, fun v q => nomatch q⟩
    · rw [z]
      exact ⟨o, ho, fun v q => by rw [hd] at q; cases q⟩
  keep := fun i h h' st k => by
    obtain ⟨⟨old, he⟩, hi, hne⟩ := st
    exact ⟨⟨old, k e (by simp) _ he⟩, hi.at fun o q => k it (by simp) o q, hne⟩
  item := by
    intro X hP hw hK hc i pins s σ H E I hf st hg
    subst hP hw hK
    obtain ⟨⟨old, he⟩, hit, hne⟩ := st
    obtain ⟨xs, x, hq, hx⟩ := hg
    obtain ⟨its, rv, p, hz⟩ := I.tuple hq
    obtain ⟨u, hu, ru⟩ := rv.get hx
    have hel : e < s.heap.objs.size := Heap.lt_size he
    have hil : it < s.heap.objs.size := by
      obtain ⟨_, q, _⟩ := hit
      exact Heap.lt_size q
    have hat : a ≠ it := fun z => by
      obtain ⟨o1, q1, c1, _⟩ := p
      obtain ⟨o2, q2, c2, _⟩ := hit
      rw [z, q2] at q1
      cases q1
      rw [c2] at c1
      injection c1 with z1
      exact absurd z1 (by decide)
    have hae : a ≠ e := fun z => by
      obtain ⟨o1, q1, c1, _⟩ := p
      rw [z, he] at q1
      cases q1
      injection c1 with z1
      exact absurd z1 (by decide)
    have ht : s.heap.IsTuple a its.toArray := p
    have hlt : i < its.toArray.size := by
      obtain ⟨q, _⟩ := List.getElem?_eq_some_iff.mp hu
      simpa using q
    have D := Draws.tuple (prog := X.prog) (w := X.w) (A := X.A.in1) (I.ok.hd hc) it a hat its.toArray
    refine wpAny_pyNext_enum_itemD D he ⟨hit, ht⟩ hlt hne (by simp [hne, Ne.symm hae]) fun y h' tk hy ho hst hT hsz hk => ?_
    have ey : y = u := by
      have hu' : its.toArray[i]? = some u := by simpa using hu
      rw [hu'] at hy
      exact (Option.some.inj hy).symm
    subst ey
    refine ⟨_, rfl, wpAny_letOwnedTupleGo_enum (s := { s with heap := h', toks := tk + 1 }) ho fun h'' he' sb => ?_⟩
    have hT2 : h''.get? s.heap.objs.size = some { cls := .type "tuple", data := .seq #[.int i tk, y] } := (sb.2 _ (Nat.ne_of_gt hel)).trans hT
    have new : ObjOk X.prog X.w (upd H s.heap.objs.size (.tup [.int (i : Nat), x])) h'' s.heap.objs.size (.tup [.int (i : Nat), x]) :=
      ⟨by show 2 ≤ sizeLine; decide, [.int i tk, y], .cons ⟨_, rfl⟩ (.cons ru .nil), ⟨_, hT2, rfl, _, rfl⟩⟩
    have I1 : Inv X pins σ (upd H s.heap.objs.size (.tup [.int (i : Nat), x])) { s with heap := h'', toks := tk + 1 } :=
      I.turnedNew (ch := [e, it]) (fun b ob hb q => (sb.2 b (fun z => hb (by simp [z]))).trans (hk b ob (fun z => hb (by simp [z])) (fun z => hb (by simp [z])) q)) hf (Nat.le_refl _) new
    refine ⟨.ref s.heap.objs.size, _, I1, rfl, ⟨_, x, rfl, I.hok.fresh (Nat.le_refl _), rfl, fun ys hy => ?_⟩, ⟨⟨y, ?_⟩, hst.1.at fun o q => (sb.2 it (Ne.symm hne)).trans q, hne⟩, fun b hb => ?_⟩
    · obtain ⟨js, rj, pj, _⟩ := I.tuple hy
      have e1 : its = js := by
        obtain ⟨o1, q1, c1, n1, d1⟩ := p
        obtain ⟨o2, q2, c2, n2, d2⟩ := pj
        rw [q1] at q2
        cases q2
        rw [d1] at d2
        injection d2 with d3 _
        simpa using d3
      subst e1
      rw [Vals.inj rj rv]
      exact hx
    · have e1 : ((i + 1 : Nat) : Int) = (i : Int) + 1 := by omega
      rw [e1]
      exact he'
    · have hb' : b < s.heap.objs.size := by
        have e' : b = e ∨ b = it := by simpa using hb
        rcases e' with z | z
        · rw [z]
          exact hel
        · rw [z]
          exact hil
      rw [upd_ne (Nat.ne_of_lt hb')]
      exact (hf b hb).1
  done := by
    intro X hP hw hK hc i pins s σ H E I hf st hg
    subst hP hw hK
    obtain ⟨⟨old, he⟩, hit, hne⟩ := st
    obtain ⟨xs, hq, hx⟩ := hg
    obtain ⟨its, rv, p, hz⟩ := I.tuple hq
    obtain ⟨f0, f1, f2, f3, f4, f5⟩ := hf it (by simp)
    have hl := rv.length
    have ht : s.heap.IsTuple a its.toArray := p
    have hT : s.TypeIs (.ref e) "enumerate" := ⟨_, he, rfl⟩
    unfold pyNext
    refine wpAny_bind (wpAny_attempt (wpAny_callSpecial?_slot (name := Str.ofString "__next__") hT F.slot_enumerate_next
      (wpAny_call_entry F.slot_enumerate_next hT F.entry_enumerate_next ?_ (F.args_enumerate_next_1 _))))
    show wpAny _ _ (field (.ref e) 2 >>= _) _ _ _
    refine wpAny_bind (wpAny_field he rfl (x := .ref it) rfl ?_)
    refine wpAny_bind (wpAny_nextOf_tuple_end (I.ok.hd hc) hit ht (by simp; omega) fun h' x he' hx' => ?_)
    obtain ⟨o, ho, hcx⟩ := hx'
    refine wpAny_bind (wpAny_isInstance (T := "StopIteration") (b := true) ⟨o, ho, hcx⟩ isSubtype_stop ?_)
    exact wpAny_pure ⟨rfl, I.turned (t' := s.toks) (fun b o hb q => he' b o hb q) f0 f1 f3 f4 f5⟩
  self := fun A i s Q E st h => by
    obtain ⟨⟨_, he⟩, _⟩ := st
    exact wpAny_pyIter_enum he h
def iEnumT (K : PySem.W.Frag) (ta : TA) : TI := fun σ H R => ta σ H fun vs H1 => ∃ a xs, vs = [.ref a] ∧ SqT K H1 a xs ∧ R (IteT K a) H1
theorem pi_enumT {X : Cx} {e : Expr} {ta : TA} {p pos tpos : Pos} {elts : List Expr} {kk : Nat} (hg : Gl X "enumerate") (hm : X.mg "enumerate" = none) (ha : PA X [e] ta) (hs : starEach [e] X.env = [(false, eval e X.env)] := by rfl) :
    PI X (.Tuple elts kk tpos) (.Call (.Name "enumerate" p) [e] [] pos) (iEnumT X.K ta) := by
  refine ⟨fun pins s σ H R I h => ?_⟩
  refine Call_ (ld_blt I hg hm boot_enumerate (PyProof.Rows.callWith_type1 (thn (ha.run pos pins s σ H _ I h) fun us s1 ⟨vs, H1, I1, r1, q1⟩ => ?_) hs rfl))
  obtain ⟨a, xs, ex, hq, q⟩ := q1
  subst ex
  cases r1 with
  | cons r rr =>
    cases rr
    cases r
    obtain ⟨its, rv, p', hz⟩ := I1.tuple hq
    refine call_enum_tup (show s1.heap.IsTuple a its.toArray from p') fun h' he hit hsz hk => wpAny_pyIter_enum he ?_
    have I2 : Inv X pins σ H1 { s1 with heap := h' } := I1.kept (t' := s1.toks) hk
    refine ⟨s1.heap.objs.size + 1, [s1.heap.objs.size + 1, s1.heap.objs.size], _, _, H1, rfl, I2, turn_enumT a (s1.heap.objs.size + 1) s1.heap.objs.size, ⟨⟨.none, he⟩, hit, Nat.succ_ne_self _⟩, fun b hb => ?_, q⟩
    have e' : b = s1.heap.objs.size + 1 ∨ b = s1.heap.objs.size := by simpa using hb
    have hle : s1.heap.objs.size ≤ b := by
      rcases e' with z | z
      · rw [z]
        exact Nat.le_add_right _ _
      · rw [z]
        exact Nat.le_refl _
    exact I1.fpOk hle (I1.hok.fresh hle)
theorem walk_enumT {K : PySem.W.Frag} {a : Addr} {xs : List V} : Walk (IteT K a) xs.length (fun H => SqT K H a xs) (YPair (fun i => some (.int (i : Nat))) (fun i => xs[i]?)) :=
  ⟨fun i H hi h => ⟨xs, xs[i], h, by simp [hi]⟩, fun H h => ⟨xs, h, Nat.le_refl _⟩, fun i H x H' hi h ⟨T, y, e, hn, eh, hy⟩ => ⟨T, _, y, e, hn, eh, rfl, hy xs h⟩⟩
end K25
set_option maxHeartbeats 2000000
/-! promises of defs that are called where no repr is under way; the end of a law over such a promise -/
namespace K25
open PySem PySem.Spec PyProof.Rows L2
/-- FnOk, told of arounds whose guards are known to be none -/
structure FnOkG (P : Program) (w : World) (K : PySem.W.Frag) (mg : Str → Option Value) (base : Heap) (CX : CXT) (k : Nat) (f : Addr) (fd : FuncData) (ps : List Str) (sp : Sp) : Prop where
  len : ∀ vs H Q E, sp vs H Q E → vs.length = ps.length
  run : ∀ (A : Around) (outer : List Env) (s : Shared) (H : Hp) (args : Args) (us : List Value) (vs : List V) (Q : VK) (E : XK), A.guards = some [] → Room k A → Env0 P w K mg base A outer s H → BindsTo s fd args (ps.zip us) → Vals vs us → sp vs H Q E →
    codeAny (model P w) A (.call (.ref f) args) (CR CX outer P w H s Q E) s
/-- the i-th facts of a def that stands in K: its code object's address -/
def CodeAt (K : PySem.W.Frag) (f : Addr) (cdv : Value) : Prop := ∃ (oc : Value) (od : Option Addr) (fd : FuncData) (osl : Array (Option Value)), K.lookup f = some ⟨oc, od, .func fd, osl⟩ ∧ fd.code = cdv
section
variable {P : Program} {w : World} {K : PySem.W.Frag} {mg : Str → Option Value} {base : Heap} {x qual : Str} {params : Arguments} {body : List Stmt} {scope : Scope} {f : Addr} {fd : FuncData}
theorem okG {CX : CXT} {N ps : List Str} {k : Nat} {sp : Sp} (F : FunD K x qual params body scope [] [] f fd) (S : FnScope N ps scope) (len : ∀ vs H Q E, sp vs H Q E → vs.length = ps.length)
    (hbody : ∀ (cdv : Value) (A : Around) (outer : List Env) (s : Shared) (H : Hp) (vs : List V) (Q : VK) (E : XK), A.guards = some [] → Room k (A.deeper (envOfC qual scope s.heap.objs.size f cdv)) → CodeAt K f cdv → PySem.W.codeIn K cdv qual = true → sp vs H Q E →
      ∃ t, PSs (cxOf CX P w K mg base N qual scope f cdv A outer s H E) body t ∧ t { nx := fun _ H' => Q .non H', rt := Q } (L2.start N vs) H) : FnOkG P w K mg base CX (k + 1) f fd ps sp := by
  obtain ⟨oc, od, dV, kV, doc, pm, an, cdv, ct, osl, rfl, lk, hcd, _, _⟩ := F.ex
  exact ⟨len, fun A outer s H args us vs Q E hg hr e0 hb r h => LamX.run_ofS (N := N) lk hcd S hr e0 hb r (len _ _ _ _ h) fun hr' => hbody cdv A outer s H vs Q E hg hr' ⟨_, _, _, _, lk, rfl⟩ hcd h⟩
end
section
variable {X : Cx} {CX : CXT} {k : Nat} {f : Addr} {fd : FuncData} {ps : List Str} {sp : Sp} {E : XK} {x : Str} {p pos : Pos} {e : Expr} {es : List Expr} {t : TA}
/-- f(e, ..) -/
theorem pe_callG (F : FnOkG X.prog X.w X.K X.mg X.base CX k f fd ps sp) (hgu : X.A.guards = some []) (hr : Room k X.A) (hg : Gl X x) (hm : X.mg x = some (.ref f)) (hk : PySem.W.keepIn X.K (.ref f) = true) (hb : Binds X.K fd ps []) (hx : Passes CX X E)
    (ha : PA X (e :: es) t) (hdb : (x == ("__debug__" : Str)) = false := by decide) (he : starEach (e :: es) X.env = (false, eval e X.env) :: starEach es X.env := by rfl) (hpl : (backTo pos (starEach es X.env)).any (·.1) = false := by rfl) :
    PE X (.Call (.Name x p) (e :: es) [] pos) (tCall sp [] E t) := by
  refine ⟨fun pins s σ H Q I h => ?_⟩
  refine wpAny_Call_Name_kw (ld_glob I hg hm ?_ hdb)
  refine PySem.W.callWith_K (h₀ := X.base) I.ok.mod.kin hk (thn (ha.run pos pins s σ H _ I h) fun us s1 ⟨vs, H1, I1, r, q⟩ => ⟨I1.kIn, ?_⟩) he hpl
  have r2 : Vals (vs ++ []) us := by
    rw [List.append_nil]
    exact r
  have hl : us.length = ps.length := by
    rw [← r2.length]
    exact F.len _ _ _ _ q
  have hb' := hb s1 us I1.kIn (by rw [List.append_nil]; exact hl)
  rw [List.append_nil] at hb'
  refine wpAny_call (codeAny_mono (F.run X.A X.stack s1 H1 ⟨us, []⟩ us (vs ++ []) Q E hgu hr I1.env0 hb' r2 q) fun r s' hq => ?_)
  cases r with
  | error e => exact hx pins σ H1 s1 e s' I1 hq
  | ok fl =>
    cases fl with
    | ret u => exact I1.after hq
    | next => exact False.elim hq
    | brk => exact False.elim hq
    | cont => exact False.elim hq
end
/-- the law's call at the heap behind the top; c0 the law's code object, P0 its table -/
theorem law_run {P : Program} {w : World} {K : PySem.W.Frag} {mg mb : Str → Option Value} {CX : CXT} {k : Nat} {fa a c0 P0 : Addr} {fd : FuncData} {x : Str} {sp : Sp} {s₁ : Shared} {vs : List Value} {ns : List Int}
    (KX : K.In s₁.heap) (hns : s₁.heap.Ns mainGlobals mg) (hb : s₁.heap.Ns builtinsNs mb) (hbb : ∀ y : Str, y ≠ "__name__" → mb y = bootBuiltins y) (hlim : s₁.heap.NoLimit) (hg : s₁.gens = #[])
    (hT : s₁.heap.get? P0 = some { cls := .none, data := .fields #[] }) (nT : K.lookup P0 = none) (hC : PySem.W.CodeHd s₁.heap c0 P0)
    (hbm : ∃ (bm : Addr) (ob : Obj), mg "__builtins__" = some (.ref bm) ∧ bm ≠ builtinsNs ∧ s₁.heap.get? bm = some ob ∧ ob.cls = .type "module" ∧ ob.dict = some builtinsNs ∧ ob.data = .plain)
    (ha : s₁.heap.get? a = some { cls := .type "list", data := .seq vs.toArray }) (hi : IntsAre vs ns) (hl : ns.length ≤ sizeLine) (hr : Room k callerA)
    (F : ∀ base : Heap, K.In base → base.Ns mainGlobals mg → LamX.TabB base mg c0 P0 → FnOkG P w K mg base CX k fa fd [x] sp) (hbind : ∀ (s : Shared) (u : Value), BindsTo s fd ⟨[u], []⟩ [(x, u)])
    (hsp : ∀ H : Hp, H P0 = some (.tbl #[]) → SqL K H a (ns.map V.int) → sp [.ref a] H (fun v _ => v = .bl true) fun _ _ _ => False)
    (hCX : ∀ H e s', CX [] H s₁ (fun _ _ _ => False) e s' → False) :
    codeAny (model P w) callerA (.call (.ref fa) ⟨[.ref a], []⟩) (fun r s' => r = .ok (.ret (.bool true)) ∧ OldK s₁.heap s'.heap ∧ s'.os = s₁.os ∧ AllBare s'.gens) s₁ := by
  have rv := vals_ints hi
  have lenV := hi.length
  have aP : a ≠ P0 := fun z => by
    rw [z, hT] at ha
    cases ha
  have core : ∀ H : Hp, H P0 = some (.tbl #[]) → (∀ b, H b = none ∨ b = P0 ∨ ∃ o xs, H b = some (.frz o (.lst xs))) → SqL K H a (ns.map V.int) → HOk P w H s₁.heap → (∀ b, H b ≠ none → b = a ∨ b = P0) → (H a ≠ none → K.lookup a = none) →
      codeAny (model P w) callerA (.call (.ref fa) ⟨[.ref a], []⟩) (fun r s' => r = .ok (.ret (.bool true)) ∧ OldK s₁.heap s'.heap ∧ s'.os = s₁.os ∧ AllBare s'.gens) s₁ := by
    intro H hH hO hS hok hA hK
    have base_of : ∀ {b : Addr} {o : Obj}, s₁.heap.get? b = some o → H b = none → (hidT s₁.heap H).get? b = some o := fun e n => hidT_get e n
    have free : ∀ {b : Addr} {o : Obj}, s₁.heap.get? b = some o → (∀ us n, o.data ≠ .seq us n) → o.data ≠ .fields #[] → H b = none := fun {b o} e h1 h2 => by
      cases q : H b with
      | none => rfl
      | some u =>
        rcases hA b (by rw [q]; simp) with z | z
        · rw [z, ha] at e
          cases e
          exact absurd rfl (h1 _ _)
        · rw [z, hT] at e
          cases e
          exact absurd rfl h2
    have noDict : ∀ {b : Addr} {o : Obj} {es : Array DictEntry} {ep : Nat}, s₁.heap.get? b = some o → o.data = .dict es ep → H b = none := fun {b o es ep} e dd =>
      free e (fun us n z => by rw [dd] at z; cases z) fun z => by rw [dd] at z; cases z
    have nsK : ∀ {b : Addr} {m : Str → Option Value}, s₁.heap.Ns b m → (hidT s₁.heap H).Ns b m := fun {b m} ⟨o, es, ep, e, dd, r⟩ => ⟨o, es, ep, base_of e (noDict e dd), dd, r⟩
    have hKb : K.In (hidT s₁.heap H) := fun b o e => by
      refine base_of (KX b o e) ?_
      cases q : H b with
      | none => rfl
      | some u =>
        rcases hA b (by rw [q]; simp) with z | z
        · have e1 := hK (by rw [← z, q]; simp)
          rw [z, e1] at e
          cases e
        · rw [z, nT] at e
          cases e
    have hM : L2.Mod K mg (hidT s₁.heap H) := ⟨hKb, nsK hns, ⟨mb, nsK hb, hbb⟩, let ⟨mc, h1, h2⟩ := hlim; ⟨mc, nsK h1, h2⟩⟩
    have TB : LamX.TabB (hidT s₁.heap H) mg c0 P0 := by
      refine ⟨?_, ?_, fun z => ?_⟩
      · obtain ⟨o, us, file, tf, flags, tg, inF, text, tt, e1, r1, r2, r3, r4, r5, r6, r7, r8, hne⟩ := hC
        refine ⟨o, us, file, tf, flags, tg, inF, text, tt, base_of e1 (free e1 (fun us n z => ?_) fun z => ?_), r1, r2, r3, r4, r5, r6, r7, r8, hne⟩
        · rw [r2] at z
          cases z
        · rw [r2] at z
          cases z
          simp at r3
      · obtain ⟨bm, ob, b1, b2, b3, b4, b5, b6⟩ := hbm
        have nG : bm ≠ mainGlobals := fun q => by
          obtain ⟨o, es, ep, e, hd, _⟩ := hns
          rw [q, e] at b3
          cases b3
          rw [hd] at b6
          cases b6
        have nP : bm ≠ P0 := fun q => by
          rw [q, hT] at b3
          cases b3
          cases b6
        refine ⟨bm, ob, b1, b2, nG, nP, base_of b3 (free b3 (fun us n z => ?_) fun z => ?_), b4, b5, b6⟩
        · rw [b6] at z
          cases z
        · rw [b6] at z
          cases z
      · obtain ⟨o, es, ep, e, hd, _⟩ := hns
        rw [z, hT] at e
        cases e
        cases hd
    have e0 : Env0 P w K mg (hidT s₁.heap H) callerA [] s₁ H := ⟨rfl, hM, fun b o e => of_hidT e, Nat.le_of_eq (hidT_size _ _), trivial, fun b hb => absurd (show b ∈ ([] : List Addr) from hb) (by simp), hok, .of_eq hg⟩
    refine codeAny_mono ((F _ hKb (nsK hns) TB).run callerA [] s₁ H ⟨[.ref a], []⟩ [.ref a] [.ref a] _ _ rfl hr e0 (hbind s₁ (.ref a)) (.cons rfl .nil) (hsp H hH hS)) fun r s' h => ?_
    cases r with
    | error e => exact (hCX H e s' h).elim
    | ok fl =>
      cases fl with
      | next => exact False.elim h
      | brk => exact False.elim h
      | cont => exact False.elim h
      | ret u =>
        obtain ⟨v, H', os, bare, un, hok', r', q⟩ := h
        obtain rfl : v = .bl true := q
        obtain rfl : u = Value.bool true := r'
        have old : ∀ b o, b ≠ P0 → s₁.heap.get? b = some o → s'.heap.get? b = some o := fun b o nb e => by
          cases q : H b with
          | none => exact un.keep b o e q (by intro z; exact absurd (show b ∈ ([] : List Addr) from z) (by simp)) (by simp)
          | some u =>
            rcases hO b with z | z | ⟨ob, xs, z⟩
            · rw [q] at z
              cases z
            · exact absurd z nb
            · obtain ⟨e1, _⟩ := hok b _ z
              obtain ⟨e2, _⟩ := hok' b _ (un.frzs b ob _ z)
              rw [e] at e1
              cases e1
              exact e2
        obtain ⟨more, hm⟩ : ∃ more : Array Value, s'.heap.get? P0 = some { cls := .none, data := .fields more } := by
          obtain ⟨more, z⟩ := un.tbls P0 #[] hH
          exact ⟨_, hok' P0 _ z⟩
        refine ⟨rfl, ⟨fun b o e => ?_, fun b o e => ?_⟩, os, bare⟩
        · by_cases hb : b = P0
          · subst hb
            rw [hT] at e
            cases e
            exact .inr (.inl ⟨(hC.tab hT).isCodeTable, rfl, #[], more, rfl, by rw [Array.empty_append]; exact hm⟩)
          · exact .inl (old b o hb e)
        · by_cases hb : b = P0
          · rw [hb]
            exact ⟨_, hm⟩
          · exact ⟨o, old b o hb e⟩
  cases hk : K.lookup a with
  | some o =>
    have e := KX a o hk
    rw [ha] at e
    cases e
    refine core (fun b => if b = P0 then some (.tbl #[]) else none) (if_pos rfl) (fun b => ?_) (.inr ⟨_, vs.toArray, _, hk, rfl, rfl, rfl, by rw [List.size_toArray, lenV]; exact hl, by simpa using rv⟩) (fun b u z => ?_) (fun b z => ?_) fun z => absurd (if_neg aP) z
    · by_cases hb : b = P0
      · exact .inr (.inl hb)
      · exact .inl (if_neg hb)
    · by_cases hb : b = P0
      · have z' := (if_pos hb).symm.trans z
        cases z'
        rw [hb]
        exact hT
      · cases (if_neg hb).symm.trans z
    · by_cases hb : b = P0
      · exact .inr hb
      · exact absurd (if_neg hb) z
  | none =>
    refine core (fun b => if b = a then some (.frz { cls := .type "list", data := .seq vs.toArray } (.lst (ns.map V.int))) else if b = P0 then some (.tbl #[]) else none) ((if_neg (Ne.symm aP)).trans (if_pos rfl)) (fun b => ?_)
      (.inl (.inr ⟨{ cls := .type "list", data := .seq vs.toArray }, if_pos rfl⟩)) (fun b u z => ?_) (fun b z => ?_) fun _ => hk
    · by_cases hb : b = a
      · exact .inr (.inr ⟨_, _, if_pos hb⟩)
      · by_cases hb2 : b = P0
        · exact .inr (.inl hb2)
        · exact .inl ((if_neg hb).trans (if_neg hb2))
    · by_cases hb : b = a
      · have z' := (if_pos hb).symm.trans z
        cases z'
        rw [hb]
        exact ⟨ha, by rw [List.length_map]; exact hl, vs, _, rv, ha⟩
      · have z1 := (if_neg hb).symm.trans z
        by_cases hb2 : b = P0
        · have z' := (if_pos hb2).symm.trans z1
          cases z'
          rw [hb2]
          exact hT
        · cases (if_neg hb2).symm.trans z1
    · by_cases hb : b = a
      · exact .inl hb
      · by_cases hb2 : b = P0
        · exact .inr hb2
        · exact absurd ((if_neg hb).trans (if_neg hb2)) z
/-- what is known of the law's promise at the head's heap -/
def LawIs (l : PySem.W.OpenLaw) (w : World) (K : PySem.W.Frag) (CX : CXT) (k n : Nat) (x : Str) (mg : Str → Option Value) (fa : Addr) (h : Heap) : Prop :=
  ∃ (fd : FuncData) (c0 P0 : Addr) (sp : Sp), h.get? P0 = some { cls := .none, data := .fields #[] } ∧ K.lookup P0 = none ∧ PySem.W.CodeHd h c0 P0 ∧ (∀ (s : Shared) (u : Value), BindsTo s fd ⟨[u], []⟩ [(x, u)]) ∧
    (∀ (H : Hp) (a : Addr) (ns : List Int), ns.length ≤ n → H P0 = some (.tbl #[]) → SqL K H a (ns.map V.int) → sp [.ref a] H (fun v _ => v = .bl true) fun _ _ _ => False) ∧
    ∀ base : Heap, K.In base → base.Ns mainGlobals mg → LamX.TabB base mg c0 P0 → FnOkG l.prog w K mg base CX k fa fd [x] sp
theorem walk_end {l : PySem.W.OpenLaw} {n k : Nat} {q : Program} {loose : List Str} {XP : (Str → Option Value) → Heap → Prop} {YP : World → Heap → Prop} {d : DefRec} {CX : World → CXT} {x : Str}
    (hn : l.most = some n) (hn2 : n ≤ sizeLine) (hdf : d.params.defaults = []) (hr : Room k callerA)
    (F : ∀ (w : World) (mg : Str → Option Value) (fa : Addr) (h : Heap), YP w h → h.Ns mainGlobals mg → mg d.name = some (.ref fa) → ∃ K : PySem.W.Frag, K.In h ∧ LawIs l w K (CX w) k n x mg fa h)
    (hCX : ∀ (w : World) (H : Hp) (s : Shared) (e : Value) (s' : Shared), CX w [] H s (fun _ _ _ => False) e s' → False) :
    PySem.W.WalkO q loose XP YP l.row.toRowW d [] (fun f vs => PySem.call f vs) := by
  refine Att.attach_callB hn hdf fun w s₀ s₁ mg mb fa o pm cd doc a vs ns G Y ho hd hcd hmg hobj hints hlen hbits hg => ?_
  obtain ⟨K, KX, fd, c0, P0, sp, hT, nT, hC, hb, hsp, hF⟩ := F w mg fa _ Y G.T.g hmg
  exact law_run KX G.T.g G.T.b G.T.builtins G.T.nolimit hg hT nT hC G.T.bmain hobj hints (Nat.le_trans hlen hn2) hr hF hb (fun H hH hS => hsp H a ns hlen hH hS) fun H e s' => hCX w H s₁ e s'
end K25
set_option maxHeartbeats 2000000
/-! the head's facts, with the getters of properties -/
namespace K25
open PySem PySem.Spec PyProof.Rows L2 He
def gAd (K : PySem.W.Frag) (p : Str × Option Str) : Addr := match p.2 with
  | none => 0
  | some f => (match PySem.W.recIn K (ma K (ga K p.1) f) "property" with
    | some (.ref g :: _) => g
    | _ => 0)
def propB (K : PySem.W.Frag) (x f : Str) : Bool := eqO (PySem.W.findIn K (.ref (ga K x)) f) (some (some (.ref (ma K (ga K x) f)))) && (decide (PySem.W.specialIn K (.ref (ma K (ga K x) f)) "__get__" = some (some (.builtin "property.__get__"))) &&
  (decide (PySem.W.takesIn K (.ref (ma K (ga K x) f)) = some true) && (match PySem.W.recIn K (ma K (ga K x) f) "property" with
    | some (.ref _ :: _) => true
    | _ => false)))
theorem propB_ok {K : PySem.W.Frag} {x f : Str} (h : propB K x f = true) : PropOf K (ga K x) f (ma K (ga K x) f) (gAd K (x, some f)) := by
  obtain ⟨h1, h⟩ := ba h
  obtain ⟨h2, h⟩ := ba h
  obtain ⟨h3, h4⟩ := ba h
  refine ⟨eqO_ok h1, of_decide_eq_true h2, of_decide_eq_true h3, ?_⟩
  unfold gAd
  cases q : PySem.W.recIn K (ma K (ga K x) f) "property" with
  | none =>
    rw [q] at h4
    cases h4
  | some l =>
    rw [q] at h4
    cases l with
    | nil => cases h4
    | cons v r =>
      cases v with
      | ref g =>
        refine ⟨r, ?_⟩
        show some (Value.ref g :: r) = some (Value.ref (match PySem.W.recIn K (ma K (ga K x) f) "property" with
          | some (.ref g :: _) => g
          | _ => 0) :: r)
        rw [q]
      | _ => cases h4
def fnWA (K : PySem.W.Frag) (a : Addr) : FnW := match K.lookup a with
  | some ⟨_, _, .func fd, _⟩ => some (fd.name, fd.qualname, fd.params, fd.body, fd.scope, fd.globals, fd.closure, fd.builtins)
  | _ => none
def okA (K : PySem.W.Frag) (d : DefD) (a : Addr) : Bool := PySem.W.keepIn K (.ref a) && (match K.lookup a with
  | some ⟨_, _, .func fd, _⟩ => PySem.W.codeIn K fd.code d.qual && (dflB K fd.defaults [] && kwdB K fd.kwdefaults [])
  | _ => false)
theorem funDA {K : PySem.W.Frag} {d : DefD} {a : Addr} (e : fnWA K a = d.val) (c : okA K d a = true) : ∃ fd, FunD K d.name d.qual d.params d.body d.scope [] [] a fd := by
  obtain ⟨kp, c2⟩ := ba c
  unfold fnWA at e
  cases q : K.lookup a with
  | none =>
    rw [q] at c2
    cases c2
  | some o =>
    obtain ⟨oc, od, dt, osl⟩ := o
    rw [q] at c2 e
    cases dt with
    | func fd =>
      obtain ⟨n1, n2, n3, n4, n5, n6, n7, n8, n9, n10, n11, n12, n13, n14, n15⟩ := fd
      have e2 : (some (n1, n2, n3, n4, n5, n6, n7, n15) : FnW) = some (d.name, d.qual, d.params, .stmts d.body, d.scope, mainGlobals, [], builtinsNs) := e
      simp only [Option.some.injEq, Prod.mk.injEq] at e2
      obtain ⟨h1, h2, h3, h4, h5, h6, h7, h8⟩ := e2
      subst h1 h2 h3 h4 h5 h6 h7 h8
      have c3 : (PySem.W.codeIn K n13 d.qual && (dflB K n8 [] && kwdB K n9 [])) = true := c2
      obtain ⟨k1, k2⟩ := ba c3
      obtain ⟨k3, k4⟩ := ba k2
      exact ⟨_, ⟨oc, od, n8, n9, n10, n11, n12, n13, n14, osl, rfl, q, k1, dflB_ok k3, kwdB_ok k4⟩, kp⟩
    | _ => cases c2
def excB (K : PySem.W.Frag) (D : Addr) : Bool :=
  eqO (PySem.W.findIn K (.ref D) "__getattribute__") (some (some (.builtin "BaseException.__getattribute__"))) && (eqO (PySem.W.findIn K (.ref D) "__getattr__") (some none) &&
  (decide (PySem.W.subIn K (.ref D) (.type "BaseException") = some true) && (PySem.W.hasDictIn K D && (eqO (PySem.W.findIn K (.ref D) "__class__") (some (some (.builtin "object.__class__"))) &&
  (decide (PySem.W.specialIn K (.builtin "object.__class__") "__get__" = some (some (.builtin "getset_descriptor.__get__"))) && (decide (PySem.W.takesIn K (.builtin "object.__class__") = some true) && decide (PySem.W.mroIn K D (.type "object") = some true)))))))
theorem excB_ok {K : PySem.W.Frag} {D : Addr} (h : excB K D = true) : ExcC K D := by
  obtain ⟨h1, h⟩ := ba h
  obtain ⟨h2, h⟩ := ba h
  obtain ⟨h3, h⟩ := ba h
  obtain ⟨h4, h⟩ := ba h
  obtain ⟨h5, h⟩ := ba h
  obtain ⟨h6, h⟩ := ba h
  obtain ⟨h7, h8⟩ := ba h
  exact ⟨eqO_ok h1, eqO_ok h2, of_decide_eq_true h3, h4, eqO_ok h5, of_decide_eq_true h6, of_decide_eq_true h7, of_decide_eq_true h8⟩
/-! ### the Hook -/
abbrev AlP : Type := AlX × List FnW
def obsP (n : Nat) (fa : List Fa) (fn : List DefD) (tf : List Defn) (ex : PySem.W.Frag → Bool) (gs : List DefD) (g : Addr → Option Obj) : AlP :=
  (obsX n fa fn [] tf ex g, gs.map fun d => fnWA (frT g (asD g n)) (gAd (frT g (asD g n)) d.at_))
def valP (fn gs : List DefD) (w : World) : AlP := (valX fn [] w, gs.map DefD.val)
def SaysP (fa : List Fa) (fn : List DefD) (tf : List Defn) (ex : PySem.W.Frag → Bool) (gs : List DefD) (w : World) (h : Heap) (K : PySem.W.Frag) : Prop :=
  SaysX fa fn [] tf ex w h K ∧ (gs.map fun d => fnWA K (gAd K d.at_)) = gs.map DefD.val
def hookP (n : Nat) (fa : List Fa) (fn : List DefD) (tf : List Defn) (ex : PySem.W.Frag → Bool) (gs : List DefD) : PySem.W.Hook where
  α := AlP
  obs := fun s => obsP n fa fn tf ex gs s.heap.get?
  val := fun w => valP fn gs w
  says := fun w h => ∃ K : PySem.W.Frag, K.In h ∧ SaysP fa fn tf ex gs w h K
  of := fun w s e => ⟨_, frT_in, saysX_of (congrArg (fun z : AlP => z.1) e), congrArg (fun z : AlP => z.2) e⟩
  keeps := fun w h h' ⟨K, hK, c, c2⟩ k => ⟨K, PySem.W.Frag.In.keeps hK k, ⟨c.t, c.more, c.hd, c.out, fun p hp => k _ _ (c.empty p hp)⟩, c2⟩
theorem obsP_eq {n : Nat} {fa : List Fa} {fn : List DefD} {tf : List Defn} {ex : PySem.W.Frag → Bool} {gs : List DefD} {g : Addr → Option Obj} {s : Shared} (h : ∀ a, g a = s.heap.get? a) : obsP n fa fn tf ex gs g = (hookP n fa fn tf ex gs).obs s := by
  have e : g = s.heap.get? := funext h
  rw [e] <;> rfl
theorem SaysP.get {fa : List Fa} {fn : List DefD} {tf : List Defn} {ex : PySem.W.Frag → Bool} {gs : List DefD} {w : World} {h : Heap} {K : PySem.W.Frag} (c : SaysP fa fn tf ex gs w h K) (i : Nat) {d : DefD} (hd : gs[i]? = some d) (ok : okA K d (gAd K d.at_) = true) :
    ∃ fd, FunD K d.name d.qual d.params d.body d.scope [] [] (gAd K d.at_) fd := by
  have e := c.2
  have e2 : (gs.map fun d => fnWA K (gAd K d.at_))[i]? = (gs.map DefD.val)[i]? := by rw [e]
  rw [List.getElem?_map, List.getElem?_map, hd] at e2
  exact funDA (Option.some.inj e2) ok
end K25
/-! the machine as plain functions -/
namespace K25
open PySem
/-- l[i] for i from 0 on -/
def g (l : List Int) (i : Int) : Int := l.getD i.toNat 0
def Num (i : Int) : Prop := 0 ≤ i ∧ i ≤ 9999
structure Bd where
  dep : Int
  wires : List (List (Int × Int))
  secs : List (List Int × List Int)
structure WfB (b : Bd) : Prop where
  dep : 1 ≤ b.dep ∧ b.dep ≤ 60
  len : b.wires.length = b.secs.length
  n1 : 1 ≤ b.secs.length
  n6 : b.secs.length ≤ 6
  cells : ∀ s ∈ b.secs, 1 ≤ s.1.length ∧ s.1.length ≤ 200 ∧ ∀ z ∈ s.1, Num z
  ents : ∀ s ∈ b.secs, 1 ≤ s.2.length ∧ s.2.length ≤ 6 ∧ ∀ z ∈ s.2, Num z
  wl : ∀ (r : Nat) (ws : List (Int × Int)), b.wires[r]? = some ws → ws.length ≤ 8 ∧ ws.Nodup ∧ ∀ p ∈ ws, 0 ≤ p.1 ∧ p.1 < (b.secs.length : Int) ∧ p.1 ≠ (r : Int) ∧ 0 ≤ p.2 ∧ ∃ s, b.secs[p.1.toNat]? = some s ∧ p.2 < (s.2.length : Int)
inductive Mode where
  | run | deep | done | fin
  deriving DecidableEq
def Mode.str : Mode → Str
  | .run => "running"
  | .deep => "deep"
  | .done => "done"
  | .fin => "end"
structure MS where
  cells : List (List Int)
  regs : List Int
  row : List (Str × List Int)
  steps : Int
  mode : Mode
  room : Int
  addr : Int
  asks : List (Int × Int)
/-! ### one instruction -/
def sumFound (code : Int) (regs : List Int) : Int :=
  if code / 1000 = 4 then (g regs (code / 10 % 10) + g regs (code % 10)) % 10000
  else if code / 1000 = 5 then (g regs (code / 10 % 10) - g regs (code % 10)) % 10000
  else if code / 1000 = 6 then g regs (code / 10 % 10) * g regs (code % 10) % 10000
  else if code / 1000 = 7 then (if g regs (code / 10 % 10) < g regs (code % 10) then 1 else 0)
  else (if g regs (code % 10) ≠ 0 then g regs (code / 10 % 10) % g regs (code % 10) else 0)
def sumM (code : Int) (regs : List Int) : List Int := regs.set (code / 100 % 10).toNat (sumFound code regs)
def cellM (code : Int) (cells regs : List Int) (at_ : Int) : Int × List Int × List Int :=
  if code < 2000 then
    (if at_ + 1 ≥ (cells.length : Int) then (-1, cells, regs) else (at_ + 2, cells, regs.set (code / 100 % 10).toNat (g cells (at_ + 1))))
  else if g regs (code / 10 % 10) ≥ (cells.length : Int) then (-1, cells, regs)
  else if code % 10 < 5 then (at_ + 1, cells, regs.set (code / 100 % 10).toNat (g cells (g regs (code / 10 % 10))))
  else (at_ + 1, cells.set (g regs (code / 10 % 10)).toNat (g regs (code / 100 % 10)), regs)
def innerM (cells regs : List Int) (at_ : Int) : Int × List Int × List Int :=
  if at_ ≥ (cells.length : Int) then (-1, cells, regs)
  else if g cells at_ ≥ 9000 then (-2, cells, regs)
  else if g cells at_ ≥ 8000 then ((if g regs (g cells at_ / 100 % 10) ≠ 0 then g regs (g cells at_ / 10 % 10) else at_ + 1), cells, regs)
  else if g cells at_ ≥ 3000 then (at_ + 1, cells, sumM (g cells at_) regs)
  else if g cells at_ ≥ 1000 then cellM (g cells at_) cells regs at_
  else (-1, cells, regs)
def crossM (b : Bd) (s : MS) (code : Int) : MS :=
  if code % 10 < 5 then
    (if ¬ (g s.regs (code / 100 % 10), g s.regs (code / 10 % 10)) ∈ b.wires.getD s.room.toNat [] then { s with row := s.row ++ [(("end" : Str), [s.room])], mode := .fin }
     else if (s.asks.length : Int) ≥ b.dep then { s with row := s.row ++ [(("deep" : Str), [s.room, g s.regs (code / 100 % 10), g s.regs (code / 10 % 10), g s.regs 0])], mode := .deep }
     else { s with asks := s.asks ++ [(s.room, s.addr + 1)], row := s.row ++ [(("call" : Str), [s.room, g s.regs (code / 100 % 10), g s.regs (code / 10 % 10), g s.regs 0])],
                   room := g s.regs (code / 100 % 10), addr := g (b.secs.getD (g s.regs (code / 100 % 10)).toNat ([], [])).2 (g s.regs (code / 10 % 10)) })
  else match s.asks.getLast? with
    | none => { s with row := s.row ++ [(("done" : Str), [g s.regs 0])], mode := .done }
    | some p => { s with asks := s.asks.dropLast, room := p.1, addr := p.2, row := s.row ++ [(("back" : Str), [s.room, p.1, g s.regs 0])] }
/-- the cells of the room in control -/
def MS.here (s : MS) : List Int := s.cells.getD s.room.toNat []
def MS.put (s : MS) (c r : List Int) : MS := { s with cells := s.cells.set s.room.toNat c, regs := r }
def step1 (b : Bd) (s : MS) : MS :=
  if (innerM s.here s.regs s.addr).1 ≥ 0 then { s.put (innerM s.here s.regs s.addr).2.1 (innerM s.here s.regs s.addr).2.2 with addr := (innerM s.here s.regs s.addr).1 }
  else if (innerM s.here s.regs s.addr).1 = -1 then { s.put (innerM s.here s.regs s.addr).2.1 (innerM s.here s.regs s.addr).2.2 with row := s.row ++ [(("end" : Str), [s.room])], mode := .fin }
  else crossM b (s.put (innerM s.here s.regs s.addr).2.1 (innerM s.here s.regs s.addr).2.2) (g s.here s.addr)
def runN (b : Bd) : Nat → MS → MS
  | 0, s => s
  | n + 1, s => if s.mode = .run then runN b n { step1 b s with steps := s.steps + 1 } else s
theorem runN_stop {b : Bd} {s : MS} (h : s.mode ≠ .run) : ∀ n, runN b n s = s
  | 0 => rfl
  | n + 1 => by
    show (if s.mode = .run then _ else s) = s
    rw [if_neg h]
theorem runN_go {b : Bd} {s : MS} {n : Nat} (h : s.mode = .run) : runN b (n + 1) s = runN b n { step1 b s with steps := s.steps + 1 } := by
  show (if s.mode = .run then _ else s) = _
  rw [if_pos h]
theorem runN_add (b : Bd) : ∀ (m n : Nat) (s : MS), runN b (m + n) s = runN b n (runN b m s)
  | 0, n, s => by rw [Nat.zero_add]; rfl
  | m + 1, n, s => by
    by_cases h : s.mode = .run
    · rw [Nat.add_right_comm, runN_go h, runN_go h, runN_add b m n]
    · rw [runN_stop h, runN_stop h, runN_stop h]
theorem cross_row (b : Bd) (s : MS) (code : Int) : ∃ t, (crossM b s code).row = s.row ++ t := by
  unfold crossM
  split
  · split
    · exact ⟨_, rfl⟩
    · split
      · exact ⟨_, rfl⟩
      · exact ⟨_, rfl⟩
  · split
    · exact ⟨_, rfl⟩
    · exact ⟨_, rfl⟩
theorem step1_row (b : Bd) (s : MS) : ∃ t, (step1 b s).row = s.row ++ t := by
  unfold step1
  split
  · exact ⟨[], by rw [List.append_nil]; rfl⟩
  · split
    · exact ⟨_, rfl⟩
    · exact cross_row b (s.put _ _) _
theorem runN_row (b : Bd) : ∀ (n : Nat) (s : MS), ∃ t, (runN b n s).row = s.row ++ t
  | 0, s => ⟨[], (List.append_nil _).symm⟩
  | n + 1, s => by
    by_cases h : s.mode = .run
    · rw [runN_go h]
      obtain ⟨t1, e1⟩ := step1_row b s
      obtain ⟨t2, e2⟩ := runN_row b n { step1 b s with steps := s.steps + 1 }
      refine ⟨t1 ++ t2, ?_⟩
      rw [e2, ← List.append_assoc, ← e1]
    · rw [runN_stop h]
      exact ⟨[], (List.append_nil _).symm⟩
/-- where it still runs, all was done -/
theorem runN_steps (b : Bd) : ∀ (n : Nat) (s : MS), s.steps ≤ (runN b n s).steps ∧ (runN b n s).steps ≤ s.steps + n ∧ ((runN b n s).mode = .run → (runN b n s).steps = s.steps + n ∧ s.mode = .run)
  | 0, s => ⟨Int.le_refl _, by show s.steps ≤ s.steps + (0 : Int); omega, fun h => ⟨by show s.steps = s.steps + (0 : Int); omega, h⟩⟩
  | n + 1, s => by
    by_cases h : s.mode = .run
    · rw [runN_go h]
      obtain ⟨h1, h2, h3⟩ := runN_steps b n { step1 b s with steps := s.steps + 1 }
      have h1' : s.steps + 1 ≤ _ := h1
      have h2' : _ ≤ s.steps + 1 + (n : Int) := h2
      refine ⟨by omega, by omega, fun hm => ?_⟩
      obtain ⟨h4, _⟩ := h3 hm
      have h4' : _ = s.steps + 1 + (n : Int) := h4
      exact ⟨by omega, h⟩
    · rw [runN_stop h]
      exact ⟨Int.le_refl _, by omega, fun hm => absurd hm h⟩
/-! ### what stays true of a machine's state -/
def Words : List Str := ["start", "end", "deep", "call", "done", "back"]
structure WfM (b : Bd) (s : MS) : Prop where
  cl : s.cells.length = b.secs.length
  cs : ∀ c ∈ s.cells, 1 ≤ c.length ∧ c.length ≤ 200 ∧ ∀ z ∈ c, Num z
  rl : s.regs.length = 10
  rn : ∀ z ∈ s.regs, Num z
  room : 0 ≤ s.room ∧ s.room < (b.secs.length : Int)
  addr : 0 ≤ s.addr ∧ s.addr ≤ 9999
  asks : ∀ p ∈ s.asks, 0 ≤ p.1 ∧ p.1 < (b.secs.length : Int) ∧ 0 ≤ p.2 ∧ p.2 ≤ 9999
  askl : (s.asks.length : Int) ≤ 60
  row : ∀ p ∈ s.row, p.1 ∈ Words ∧ p.2.length ≤ 4 ∧ ∀ z ∈ p.2, Num z
  rowl : (s.row.length : Int) ≤ s.steps + 1
  steps : 0 ≤ s.steps
theorem num_g {l : List Int} (h : ∀ z ∈ l, Num z) (i : Int) : Num (g l i) := by
  unfold g
  rw [List.getD_eq_getElem?_getD]
  cases e : l[i.toNat]? with
  | none => exact ⟨by decide, by decide⟩
  | some z => exact h z (List.mem_of_getElem? e)
theorem num_mod (i : Int) : Num (i % 10000) := ⟨Int.emod_nonneg _ (by decide), by have := Int.emod_lt_of_pos i (b := 10000) (by decide); omega⟩
theorem num_set {l : List Int} (h : ∀ z ∈ l, Num z) {y : Int} (hy : Num y) (j : Nat) : ∀ z ∈ l.set j y, Num z := fun z hz => by
  rcases List.mem_or_eq_of_mem_set hz with e | e
  · exact h z e
  · rw [e]
    exact hy
theorem num_sumFound {regs : List Int} (h : ∀ z ∈ regs, Num z) (code : Int) : Num (sumFound code regs) := by
  unfold sumFound
  have h1 := num_g h (code / 10 % 10)
  have h2 := num_g h (code % 10)
  split
  · exact num_mod _
  · split
    · exact num_mod _
    · split
      · exact num_mod _
      · split
        · split
          · exact ⟨by decide, by decide⟩
          · exact ⟨by decide, by decide⟩
        · split
          · rename_i hne
            have p : 0 < g regs (code % 10) := by
              have := h2.1
              omega
            have l := Int.emod_lt_of_pos (g regs (code / 10 % 10)) p
            exact ⟨Int.emod_nonneg _ (by omega), by have := h2.2; omega⟩
          · exact ⟨by decide, by decide⟩
/-- an instruction keeps lengths and numbers; the next address lies in bounds -/
theorem inner_ok {cells regs : List Int} {at_ : Int} (hc : ∀ z ∈ cells, Num z) (hl : cells.length ≤ 200) (hr : ∀ z ∈ regs, Num z) (ha : 0 ≤ at_ ∧ at_ ≤ 9999) :
    (innerM cells regs at_).2.1.length = cells.length ∧ (innerM cells regs at_).2.2.length = regs.length ∧ (∀ z ∈ (innerM cells regs at_).2.1, Num z) ∧ (∀ z ∈ (innerM cells regs at_).2.2, Num z) ∧
      (innerM cells regs at_).1 ≤ 9999 ∧ -2 ≤ (innerM cells regs at_).1 ∧ ((innerM cells regs at_).1 = -2 → at_ < (cells.length : Int) ∧ g cells at_ ≥ 9000 ∧ (innerM cells regs at_).2 = (cells, regs)) := by
  unfold innerM
  split
  · exact ⟨rfl, rfl, hc, hr, by show (-1 : Int) ≤ 9999; decide, by show (-2 : Int) ≤ -1; decide, fun z => absurd (show (-1 : Int) = -2 from z) (by decide)⟩
  · split
    · exact ⟨rfl, rfl, hc, hr, by show (-2 : Int) ≤ 9999; decide, by show (-2 : Int) ≤ -2; decide, fun _ => ⟨by omega, by assumption, rfl⟩⟩
    · split
      · have q := num_g hr (g cells at_ / 10 % 10)
        have q1 := q.1
        have q2 := q.2
        have k : (if g regs (g cells at_ / 100 % 10) ≠ 0 then g regs (g cells at_ / 10 % 10) else at_ + 1) ≤ 9999 ∧ 0 ≤ (if g regs (g cells at_ / 100 % 10) ≠ 0 then g regs (g cells at_ / 10 % 10) else at_ + 1) := by
          by_cases hj : g regs (g cells at_ / 100 % 10) ≠ 0
          · rw [if_pos hj]
            exact ⟨q2, q1⟩
          · rw [if_neg hj]
            omega
        refine ⟨rfl, rfl, hc, hr, k.1, Int.le_trans (by decide) k.2, fun z => ?_⟩
        have z' : (if g regs (g cells at_ / 100 % 10) ≠ 0 then g regs (g cells at_ / 10 % 10) else at_ + 1) = -2 := z
        have k2 := k.2
        rw [z'] at k2
        exact absurd k2 (by decide)
      · split
        · refine ⟨rfl, by show (regs.set _ _).length = _; rw [List.length_set], hc, num_set hr (num_sumFound hr _) _, by show at_ + 1 ≤ 9999; omega, by show -2 ≤ at_ + 1; omega, fun z => ?_⟩
          have z' : at_ + 1 = -2 := z
          omega
        · split
          · unfold cellM
            split
            · split
              · exact ⟨rfl, rfl, hc, hr, by show (-1 : Int) ≤ 9999; decide, by show (-2 : Int) ≤ -1; decide, fun z => absurd (show (-1 : Int) = -2 from z) (by decide)⟩
              · refine ⟨rfl, by show (regs.set _ _).length = _; rw [List.length_set], hc, num_set hr (num_g hc _) _, by show at_ + 2 ≤ 9999; omega, by show -2 ≤ at_ + 2; omega, fun z => ?_⟩
                have z' : at_ + 2 = -2 := z
                omega
            · split
              · exact ⟨rfl, rfl, hc, hr, by show (-1 : Int) ≤ 9999; decide, by show (-2 : Int) ≤ -1; decide, fun z => absurd (show (-1 : Int) = -2 from z) (by decide)⟩
              · split
                · refine ⟨rfl, by show (regs.set _ _).length = _; rw [List.length_set], hc, num_set hr (num_g hc _) _, by show at_ + 1 ≤ 9999; omega, by show -2 ≤ at_ + 1; omega, fun z => ?_⟩
                  have z' : at_ + 1 = -2 := z
                  omega
                · refine ⟨by show (cells.set _ _).length = _; rw [List.length_set], rfl, num_set hc (num_g hr _) _, hr, by show at_ + 1 ≤ 9999; omega, by show -2 ≤ at_ + 1; omega, fun z => ?_⟩
                  have z' : at_ + 1 = -2 := z
                  omega
          · exact ⟨rfl, rfl, hc, hr, by show (-1 : Int) ≤ 9999; decide, by show (-2 : Int) ≤ -1; decide, fun z => absurd (show (-1 : Int) = -2 from z) (by decide)⟩
theorem here_mem {b : Bd} {s : MS} (h : WfM b s) : s.here ∈ s.cells := by
  have hr := h.room
  have hl := h.cl
  have hlt : s.room.toNat < s.cells.length := by omega
  unfold MS.here
  rw [List.getD_eq_getElem?_getD, List.getElem?_eq_getElem hlt]
  exact List.getElem_mem hlt
theorem wf_put {b : Bd} {s : MS} (h : WfM b s) {c r : List Int} (hc : 1 ≤ c.length ∧ c.length ≤ 200 ∧ ∀ z ∈ c, Num z) (hr : r.length = 10) (hn : ∀ z ∈ r, Num z) : WfM b (s.put c r) :=
  ⟨by show (s.cells.set _ _).length = _; rw [List.length_set]; exact h.cl, fun d hd => by
    rcases List.mem_or_eq_of_mem_set hd with e | e
    · exact h.cs d e
    · rw [e]
      exact hc, hr, hn, h.room, h.addr, h.asks, h.askl, h.row, h.rowl, h.steps⟩
theorem word_in {w : Str} (h : Words.contains w = true) : w ∈ Words := List.contains_iff_mem.mp h
theorem w_end : ("end" : Str) ∈ Words := word_in (by decide +kernel)
theorem w_deep : ("deep" : Str) ∈ Words := word_in (by decide +kernel)
theorem w_call : ("call" : Str) ∈ Words := word_in (by decide +kernel)
theorem w_done : ("done" : Str) ∈ Words := word_in (by decide +kernel)
theorem w_back : ("back" : Str) ∈ Words := word_in (by decide +kernel)
theorem w_start : ("start" : Str) ∈ Words := word_in (by decide +kernel)
theorem cross_wf {b : Bd} {s : MS} (hb : WfB b) (h : WfM b s) (code : Int) (ha : s.addr ≤ 9998) : WfM b { crossM b s code with steps := s.steps + 1 } := by
  have hrl := h.rowl
  have hst := h.steps
  have n0 := num_g h.rn 0
  have n1 := num_g h.rn (code / 100 % 10)
  have n2 := num_g h.rn (code / 10 % 10)
  have hn6 := hb.n6
  have hroom := h.room
  have nr : Num s.room := ⟨hroom.1, by omega⟩
  have mk : ∀ (r : List (Str × List Int)) (p : Str × List Int), r = s.row ++ [p] → (p.1 ∈ Words ∧ p.2.length ≤ 4 ∧ ∀ z ∈ p.2, Num z) → (∀ q ∈ r, q.1 ∈ Words ∧ q.2.length ≤ 4 ∧ ∀ z ∈ q.2, Num z) ∧ (r.length : Int) ≤ s.steps + 1 + 1 := by
    intro r p e hp
    subst e
    refine ⟨fun q hq => ?_, by rw [List.length_append, List.length_singleton]; omega⟩
    rcases List.mem_append.mp hq with z | z
    · exact h.row q z
    · rw [List.mem_singleton.mp z]
      exact hp
  unfold crossM
  split
  · split
    · have k := mk _ (("end" : Str), [s.room]) rfl ⟨w_end, by show _ ≤ 4; simp, fun z hz => by rw [List.mem_singleton.mp hz]; exact nr⟩
      exact ⟨h.cl, h.cs, h.rl, h.rn, h.room, h.addr, h.asks, h.askl, k.1, k.2, by show 0 ≤ s.steps + 1; omega⟩
    · rename_i hin
      have hin : (g s.regs (code / 100 % 10), g s.regs (code / 10 % 10)) ∈ b.wires.getD s.room.toNat [] := Classical.not_not.mp hin
      have four : ∀ z ∈ [s.room, g s.regs (code / 100 % 10), g s.regs (code / 10 % 10), g s.regs 0], Num z := fun z hz => by
        rcases List.mem_cons.mp hz with e | hz
        · rw [e]; exact nr
        · rcases List.mem_cons.mp hz with e | hz
          · rw [e]; exact n1
          · rcases List.mem_cons.mp hz with e | hz
            · rw [e]; exact n2
            · rw [List.mem_singleton.mp hz]; exact n0
      split
      · have k := mk _ (("deep" : Str), [s.room, g s.regs (code / 100 % 10), g s.regs (code / 10 % 10), g s.regs 0]) rfl ⟨w_deep, Nat.le_refl 4, four⟩
        exact ⟨h.cl, h.cs, h.rl, h.rn, h.room, h.addr, h.asks, h.askl, k.1, k.2, by show 0 ≤ s.steps + 1; omega⟩
      · rename_i hd
        have k := mk _ (("call" : Str), [s.room, g s.regs (code / 100 % 10), g s.regs (code / 10 % 10), g s.regs 0]) rfl ⟨w_call, Nat.le_refl 4, four⟩
        obtain ⟨ws, hws⟩ : ∃ ws, b.wires[s.room.toNat]? = some ws := by
          have hlt : s.room.toNat < b.wires.length := by
            rw [hb.len]
            omega
          exact ⟨_, List.getElem?_eq_getElem hlt⟩
        rw [List.getD_eq_getElem?_getD, hws] at hin
        obtain ⟨_, _, hw⟩ := hb.wl _ _ hws
        obtain ⟨w1, w2, w3, w4, sec, w5, w6⟩ := hw _ hin
        have he := hb.ents sec (List.mem_of_getElem? w5)
        have hdp := hb.dep
        refine ⟨h.cl, h.cs, h.rl, h.rn, ⟨w1, w2⟩, ?_, fun q hq => ?_, ?_, k.1, k.2, by show 0 ≤ s.steps + 1; omega⟩
        · show 0 ≤ g (b.secs.getD (g s.regs (code / 100 % 10)).toNat ([], [])).2 _ ∧ g (b.secs.getD (g s.regs (code / 100 % 10)).toNat ([], [])).2 _ ≤ 9999
          rw [List.getD_eq_getElem?_getD, w5]
          exact num_g he.2.2 _
        · rcases List.mem_append.mp hq with z | z
          · exact h.asks q z
          · rw [List.mem_singleton.mp z]
            have := h.addr
            exact ⟨hroom.1, hroom.2, by show 0 ≤ s.addr + 1; omega, by show s.addr + 1 ≤ 9999; omega⟩
        · show (((s.asks ++ [(s.room, s.addr + 1)]).length : Nat) : Int) ≤ 60
          rw [List.length_append, List.length_singleton]
          omega
  · split
    · have k := mk _ (("done" : Str), [g s.regs 0]) rfl ⟨w_done, by show _ ≤ 4; simp, fun z hz => by rw [List.mem_singleton.mp hz]; exact n0⟩
      exact ⟨h.cl, h.cs, h.rl, h.rn, h.room, h.addr, h.asks, h.askl, k.1, k.2, by show 0 ≤ s.steps + 1; omega⟩
    · rename_i p hp
      have hm := List.mem_of_getLast? hp
      obtain ⟨a1, a2, a3, a4⟩ := h.asks p hm
      have np : Num p.1 := ⟨a1, by omega⟩
      have k := mk _ (("back" : Str), [s.room, p.1, g s.regs 0]) rfl ⟨w_back, by show _ ≤ 4; simp, fun z hz => by
        rcases List.mem_cons.mp hz with e | hz
        · rw [e]; exact nr
        · rcases List.mem_cons.mp hz with e | hz
          · rw [e]; exact np
          · rw [List.mem_singleton.mp hz]; exact n0⟩
      have hal := h.askl
      refine ⟨h.cl, h.cs, h.rl, h.rn, ⟨a1, a2⟩, ⟨a3, a4⟩, fun q hq => h.asks q (List.dropLast_subset _ hq), ?_, k.1, k.2, by show 0 ≤ s.steps + 1; omega⟩
      show ((s.asks.dropLast.length : Nat) : Int) ≤ 60
      rw [List.length_dropLast]
      omega
theorem step_wf {b : Bd} {s : MS} (hb : WfB b) (h : WfM b s) : WfM b { step1 b s with steps := s.steps + 1 } := by
  obtain ⟨c1, c2, c3⟩ := h.cs _ (here_mem h)
  obtain ⟨i1, i2, i3, i4, i5, i6, i7⟩ := inner_ok c3 c2 h.rn h.addr
  have hp := wf_put h (c := (innerM s.here s.regs s.addr).2.1) (r := (innerM s.here s.regs s.addr).2.2) ⟨by rw [i1]; exact c1, by rw [i1]; exact c2, i3⟩ (i2.trans h.rl) i4
  have hrl := h.rowl
  have hst := h.steps
  have hroom := h.room
  have hn6 := hb.n6
  unfold step1
  split
  · exact ⟨hp.cl, hp.cs, hp.rl, hp.rn, hp.room, ⟨by assumption, i5⟩, hp.asks, hp.askl, hp.row, by show (s.row.length : Int) ≤ s.steps + 1 + 1; omega, by show 0 ≤ s.steps + 1; omega⟩
  · split
    · refine ⟨hp.cl, hp.cs, hp.rl, hp.rn, hp.room, hp.addr, hp.asks, hp.askl, fun q hq => ?_, ?_, by show 0 ≤ s.steps + 1; omega⟩
      · rcases List.mem_append.mp hq with z | z
        · exact h.row q z
        · rw [List.mem_singleton.mp z]
          exact ⟨w_end, by show ([s.room] : List Int).length ≤ 4; simp, fun z hz => by rw [List.mem_singleton.mp hz]; exact ⟨hroom.1, by omega⟩⟩
      · show (((s.row ++ [_]).length : Nat) : Int) ≤ s.steps + 1 + 1
        rw [List.length_append, List.length_singleton]
        omega
    · have e : (innerM s.here s.regs s.addr).1 = -2 := by omega
      obtain ⟨j1, _, _⟩ := i7 e
      exact cross_wf hb hp _ (by show s.addr ≤ 9998; omega)
theorem run_wf {b : Bd} (hb : WfB b) : ∀ (n : Nat) (s : MS), WfM b s → WfM b (runN b n s)
  | 0, _, h => h
  | n + 1, s, h => by
    by_cases hm : s.mode = .run
    · rw [runN_go hm]
      exact run_wf hb n _ (step_wf hb h)
    · rw [runN_stop hm]
      exact h
end K25
/-! what a machine tells, as data and as a text -/
namespace K25
open PySem
mutual
def plain : PyData → Bool
  | .none => true
  | .bool _ => true
  | .int i => decide (i.natAbs < 10 ^ 12)
  | .str x => PyData.canLay0 (.str x) && x.cps.toList.all fun c => decide (c < 16 ^ 8)
  | .list xs => plainAll xs
  | .tuple xs => plainAll xs
  | .dict _ => false
def plainAll : List PyData → Bool
  | [] => true
  | x :: xs => plain x && plainAll xs
end
theorem log2_small {n : Nat} (h : n < 10 ^ 12) : n.log2 < 1920 := by
  by_cases e : n = 0
  · subst e
    decide
  · exact (Nat.log2_lt e).mpr (Nat.lt_trans h (by decide +kernel))
mutual
theorem plain_lay : ∀ d : PyData, plain d = true → d.canLay0 = true ∧ d.showable = true ∧ d.hasDict = false ∧ d.leavesShort 13 = true
  | .none, _ => ⟨rfl, rfl, rfl, rfl⟩
  | .bool _, _ => ⟨rfl, rfl, rfl, rfl⟩
  | .int i, h => by
    have h' : i.natAbs < 10 ^ 12 := by simpa [plain] using h
    exact ⟨rfl, by simpa [PyData.showable] using log2_small h', rfl, by simpa [PyData.leavesShort] using PyData.shown_int_le h'⟩
  | .str x, h => by
    have h' : PyData.canLay0 (.str x) = true ∧ (x.cps.toList.all fun c => decide (c < 16 ^ 8)) = true := Bool.and_eq_true_iff.mp (show (PyData.canLay0 (.str x) && x.cps.toList.all fun c => decide (c < 16 ^ 8)) = true by simpa [plain] using h)
    exact ⟨h'.1, rfl, rfl, h'.2⟩
  | .list xs, h => by
    obtain ⟨a, b, c, d⟩ := plain_lays xs (by simpa [plain] using h)
    exact ⟨by simpa [PyData.canLay0] using a, by simpa [PyData.showable] using b, by simpa [PyData.hasDict] using c, by simpa [PyData.leavesShort] using d⟩
  | .tuple xs, h => by
    obtain ⟨a, b, c, d⟩ := plain_lays xs (by simpa [plain] using h)
    exact ⟨by simpa [PyData.canLay0] using a, by simpa [PyData.showable] using b, by simpa [PyData.hasDict] using c, by simpa [PyData.leavesShort] using d⟩
  | .dict _, h => by simp [plain] at h
theorem plain_lays : ∀ xs : List PyData, plainAll xs = true → PyData.canLayAll0 xs = true ∧ PyData.showableAll xs = true ∧ PyData.hasDictAll xs = false ∧ PyData.leavesShortAll 13 xs = true
  | [], _ => ⟨rfl, rfl, rfl, rfl⟩
  | x :: xs, h => by
    obtain ⟨h1, h2⟩ := Bool.and_eq_true_iff.mp (show (plain x && plainAll xs) = true by simpa [plainAll] using h)
    obtain ⟨a, b, c, d⟩ := plain_lay x h1
    obtain ⟨a', b', c', d'⟩ := plain_lays xs h2
    exact ⟨by simp [PyData.canLayAll0, a, a'], by simp [PyData.showableAll, b, b'], by simp [PyData.hasDictAll, c, c'], by simp [PyData.leavesShortAll, d, d']⟩
end
theorem plainAll_of : ∀ {xs : List PyData}, (∀ x ∈ xs, plain x = true) → plainAll xs = true
  | [], _ => by simp [plainAll]
  | x :: xs, h => by simp [plainAll, h x List.mem_cons_self, plainAll_of fun y hy => h y (List.mem_cons_of_mem _ hy)]
theorem depthAll_le {n : Nat} : ∀ {xs : List PyData}, (∀ x ∈ xs, x.depth ≤ n) → PyData.depthAll xs ≤ n
  | [], _ => by simp [PyData.depthAll]
  | x :: xs, h => by
    have h1 := h x List.mem_cons_self
    have h2 := depthAll_le (xs := xs) fun y hy => h y (List.mem_cons_of_mem _ hy)
    simp only [PyData.depthAll]
    omega
theorem bulkAll_le {n : Nat} : ∀ {xs : List PyData}, (∀ x ∈ xs, x.bulk ≤ n) → PyData.bulkAll xs ≤ (n + 1) * xs.length
  | [], _ => by simp [PyData.bulkAll]
  | x :: xs, h => by
    have h1 := h x List.mem_cons_self
    have h2 := bulkAll_le (xs := xs) fun y hy => h y (List.mem_cons_of_mem _ hy)
    simp only [PyData.bulkAll, List.length_cons, Nat.mul_add, Nat.mul_one]
    omega
/-! ### the data -/
def intsD (l : List Int) : PyData := .tuple (l.map .int)
def pairD (p : Int × Int) : PyData := .tuple [.int p.1, .int p.2]
def crD (p : Str × List Int) : PyData := .tuple (.str p.1 :: p.2.map .int)
def MS.rowD (s : MS) : List PyData := s.row.map crD
def MS.asksD (s : MS) : List PyData := s.asks.map pairD
def MS.atD (s : MS) : PyData := if s.mode = .run then .tuple [.int s.room, .int s.addr] else .none
def MS.momD (s : MS) : PyData := .tuple [s.atD, intsD s.regs, .tuple s.asksD, .tuple (s.cells.map intsD)]
def MS.tellD (s : MS) : PyData := .list [s.momD, .list s.rowD, .int s.steps, .str s.mode.str, .list s.asksD]
def MS.tell (s : MS) : Str := s.tellD.shown
theorem num_abs {i : Int} (h : Num i) : i.natAbs < 10 ^ 12 := by
  obtain ⟨h1, h2⟩ := h
  omega
theorem plain_int {i : Int} (h : Num i) : plain (.int i) = true := by simpa [plain] using num_abs h
theorem plain_ints {l : List Int} (h : ∀ z ∈ l, Num z) : plain (intsD l) = true := by
  have : plainAll (l.map PyData.int) = true := plainAll_of fun x hx => by
    obtain ⟨z, hz, rfl⟩ := List.mem_map.mp hx
    exact plain_int (h z hz)
  simpa [intsD, plain] using this
theorem plain_pair {p : Int × Int} (h1 : Num p.1) (h2 : Num p.2) : plain (pairD p) = true := by
  have a := plain_int h1
  have b := plain_int h2
  simp [pairD, plain, plainAll] at a b ⊢
  exact ⟨a, b⟩
theorem words_plain : ∀ w ∈ Words, plain (.str w) = true ∧ (PyData.str w).bulk ≤ 5 := by decide +kernel
theorem plain_cr {p : Str × List Int} (h1 : p.1 ∈ Words) (h2 : ∀ z ∈ p.2, Num z) : plain (crD p) = true := by
  have a := (words_plain p.1 h1).1
  have b : plainAll (p.2.map PyData.int) = true := plainAll_of fun x hx => by
    obtain ⟨z, hz, rfl⟩ := List.mem_map.mp hx
    exact plain_int (h2 z hz)
  show plainAll (.str p.1 :: p.2.map PyData.int) = true
  simp only [plainAll, a, b, Bool.and_self]
theorem mode_plain (m : Mode) : plain (.str m.str) = true ∧ (PyData.str m.str).bulk ≤ 7 := by
  cases m <;> decide +kernel
theorem depth_ints (l : List Int) : (intsD l).depth ≤ 1 := by
  have := depthAll_le (n := 0) (xs := l.map PyData.int) fun x hx => by
    obtain ⟨z, hz, rfl⟩ := List.mem_map.mp hx
    simp [PyData.depth]
  simp only [intsD, PyData.depth]
  omega
theorem depth_pair (p : Int × Int) : (pairD p).depth ≤ 1 := by simp [pairD, PyData.depth, PyData.depthAll]
theorem depth_cr (p : Str × List Int) : (crD p).depth ≤ 1 := by
  have := depthAll_le (n := 0) (xs := p.2.map PyData.int) fun x hx => by
    obtain ⟨z, hz, rfl⟩ := List.mem_map.mp hx
    simp [PyData.depth]
  simp only [crD, PyData.depth, PyData.depthAll]
  omega
theorem bulk_ints (l : List Int) : (intsD l).bulk ≤ l.length := by
  have := bulkAll_le (n := 0) (xs := l.map PyData.int) fun x hx => by
    obtain ⟨z, hz, rfl⟩ := List.mem_map.mp hx
    simp [PyData.bulk]
  rw [List.length_map] at this
  simp only [intsD, PyData.bulk]
  omega
theorem bulk_pair (p : Int × Int) : (pairD p).bulk ≤ 2 := by simp [pairD, PyData.bulk, PyData.bulkAll]
theorem bulk_cr {p : Str × List Int} (h1 : p.1 ∈ Words) (h2 : p.2.length ≤ 4) : (crD p).bulk ≤ 10 := by
  have a := (words_plain p.1 h1).2
  have := bulkAll_le (n := 0) (xs := p.2.map PyData.int) fun x hx => by
    obtain ⟨z, hz, rfl⟩ := List.mem_map.mp hx
    simp [PyData.bulk]
  rw [List.length_map] at this
  simp only [crD, PyData.bulk, PyData.bulkAll] at a ⊢
  omega
section
variable {b : Bd} {s : MS}
theorem row_plain (h : WfM b s) : plainAll s.rowD = true := plainAll_of fun x hx => by
  obtain ⟨p, hp, rfl⟩ := List.mem_map.mp hx
  obtain ⟨a, _, c⟩ := h.row p hp
  exact plain_cr a c
theorem asks_plain (hb : WfB b) (h : WfM b s) : plainAll s.asksD = true := plainAll_of fun x hx => by
  obtain ⟨p, hp, rfl⟩ := List.mem_map.mp hx
  obtain ⟨a1, a2, a3, a4⟩ := h.asks p hp
  have := hb.n6
  exact plain_pair ⟨a1, by omega⟩ ⟨a3, a4⟩
theorem at_plain (hb : WfB b) (h : WfM b s) : plain s.atD = true := by
  unfold MS.atD
  have := hb.n6
  have h1 := h.room
  split
  · exact plain_pair (p := (s.room, s.addr)) ⟨h1.1, by show s.room ≤ 9999; omega⟩ h.addr
  · simp [plain]
theorem cells_plain (h : WfM b s) : plainAll (s.cells.map intsD) = true := plainAll_of fun x hx => by
  obtain ⟨c, hc, rfl⟩ := List.mem_map.mp hx
  exact plain_ints (h.cs c hc).2.2
theorem mom_plain (hb : WfB b) (h : WfM b s) : plain s.momD = true := by
  have e : plain s.momD = (plain s.atD && (plain (intsD s.regs) && (plainAll s.asksD && (plainAll (s.cells.map intsD) && true)))) := by simp only [MS.momD, plain, plainAll]
  rw [e, at_plain hb h, plain_ints h.rn, asks_plain hb h, cells_plain h]
  rfl
theorem tell_plain (hb : WfB b) (h : WfM b s) (hs : s.steps ≤ 1000) : plain s.tellD = true := by
  have e : plain s.tellD = (plain s.momD && (plainAll s.rowD && (plain (.int s.steps) && (plain (.str s.mode.str) && (plainAll s.asksD && true))))) := by simp only [MS.tellD, plain, plainAll]
  have hi : plain (.int s.steps) = true := plain_int ⟨h.steps, by omega⟩
  rw [e, mom_plain hb h, row_plain h, hi, (mode_plain s.mode).1, asks_plain hb h]
  rfl
theorem at_depth : s.atD.depth ≤ 1 := by
  unfold MS.atD
  split
  · simp [PyData.depth, PyData.depthAll]
  · simp [PyData.depth]
theorem row_depth : PyData.depthAll s.rowD ≤ 1 := depthAll_le fun x hx => by
  obtain ⟨p, hp, rfl⟩ := List.mem_map.mp hx
  exact depth_cr p
theorem asks_depth : PyData.depthAll s.asksD ≤ 1 := depthAll_le fun x hx => by
  obtain ⟨p, hp, rfl⟩ := List.mem_map.mp hx
  exact depth_pair p
theorem cells_depth : PyData.depthAll (s.cells.map intsD) ≤ 1 := depthAll_le fun x hx => by
  obtain ⟨p, hp, rfl⟩ := List.mem_map.mp hx
  exact depth_ints p
theorem mom_depth : s.momD.depth ≤ 3 := by
  have h1 := at_depth (s := s)
  have h2 := depth_ints s.regs
  have h3 := asks_depth (s := s)
  have h4 := cells_depth (s := s)
  simp only [MS.momD, PyData.depth, PyData.depthAll]
  omega
theorem tell_depth : s.tellD.depth ≤ 4 := by
  have h1 := mom_depth (s := s)
  have h2 := row_depth (s := s)
  have h3 := asks_depth (s := s)
  simp only [MS.tellD, PyData.depth, PyData.depthAll]
  omega
theorem tell_bulk (hb : WfB b) (h : WfM b s) (hs : s.steps ≤ 1000) : s.tellD.bulk ≤ 2 ^ 20 := by
  have h0 : s.atD.bulk ≤ 2 := by
    unfold MS.atD
    split
    · simp [PyData.bulk, PyData.bulkAll]
    · simp [PyData.bulk]
  have h1 := bulk_ints s.regs
  have h2 : PyData.bulkAll s.asksD ≤ 3 * 60 := by
    have := bulkAll_le (n := 2) (xs := s.asksD) fun x hx => by
      obtain ⟨p, hp, rfl⟩ := List.mem_map.mp hx
      exact bulk_pair p
    have e : s.asksD.length = s.asks.length := List.length_map ..
    have := h.askl
    omega
  have h3 : PyData.bulkAll (s.cells.map intsD) ≤ 201 * 6 := by
    have := bulkAll_le (n := 200) (xs := s.cells.map intsD) fun x hx => by
      obtain ⟨c, hc, rfl⟩ := List.mem_map.mp hx
      exact Nat.le_trans (bulk_ints c) (h.cs c hc).2.1
    rw [List.length_map, h.cl] at this
    have := hb.n6
    omega
  have h4 : PyData.bulkAll s.rowD ≤ 11 * 1001 := by
    have := bulkAll_le (n := 10) (xs := s.rowD) fun x hx => by
      obtain ⟨p, hp, rfl⟩ := List.mem_map.mp hx
      obtain ⟨a, b, _⟩ := h.row p hp
      exact bulk_cr a b
    have e : s.rowD.length = s.row.length := List.length_map ..
    have := h.rowl
    omega
  have h5 := (mode_plain s.mode).2
  have h6 := h.rl
  simp only [MS.tellD, MS.momD, PyData.bulk, PyData.bulkAll] at h5 ⊢
  omega
/-- all that repr asks -/
theorem tell_ok (hb : WfB b) (h : WfM b s) (hs : s.steps ≤ 1000) : s.tellD.showable = true ∧ s.tellD.hasDict = false ∧ s.tellD.depth ≤ 60 ∧ s.tellD.shown.length ≤ sizeLine := by
  obtain ⟨a, b', c, d⟩ := plain_lay _ (tell_plain hb h hs)
  exact ⟨b', c, Nat.le_trans tell_depth (by decide), PyData.shown_fits_bulk (by decide) (by decide) d (tell_bulk hb h hs)⟩
end
theorem shaped_of {d : PyData} (h : plain d = true) (hd : d.depth ≤ 64) : SeqAt.shaped d = true := by
  show (d.canLay0 && decide (d.depth ≤ 64)) = true
  rw [(plain_lay d h).1, decide_eq_true hd]
  rfl
theorem eqv_self {d : PyData} (h : plain d = true) : PyData.eqv d d = true := SeqAt.eqv_refl d (plain_lay d h).1
end K25
/-! two running machines of unlike counts of steps tell unlike texts -/
namespace K25
open PySem
abbrev lst (x : Str) : List Nat := x.cps.toList
theorem lst_app (a b : Str) : lst (a ++ b) = lst a ++ lst b := by
  show (a.cps ++ b.cps).toList = _
  rw [Array.toList_append]
theorem first_split {c : Nat} : ∀ {u v x y : List Nat}, u ++ c :: x = v ++ c :: y → c ∉ u → c ∉ v → u = v ∧ x = y
  | [], [], x, y, h, _, _ => ⟨rfl, (List.cons.inj h).2⟩
  | [], d :: v, x, y, h, _, hv => absurd (by rw [(List.cons.inj h).1]; exact List.mem_cons_self) hv
  | d :: u, [], x, y, h, hu, _ => absurd (by rw [(List.cons.inj h).1]; exact List.mem_cons_self) hu
  | d :: u, e :: v, x, y, h, hu, hv => by
    obtain ⟨h1, h2⟩ := List.cons.inj h
    obtain ⟨e1, e2⟩ := first_split h2 (fun z => hu (List.mem_cons_of_mem _ z)) (fun z => hv (List.mem_cons_of_mem _ z))
    exact ⟨by rw [h1, e1], e2⟩
theorem last_split {c : Nat} {u v x y : List Nat} (h : x ++ c :: u = y ++ c :: v) (hu : c ∉ u) (hv : c ∉ v) : x = y ∧ u = v := by
  have h2 := congrArg List.reverse h
  rw [List.reverse_append, List.reverse_append, List.reverse_cons, List.reverse_cons, List.append_assoc, List.append_assoc] at h2
  obtain ⟨e1, e2⟩ := first_split h2 (fun z => hu (List.mem_reverse.mp z)) (fun z => hv (List.mem_reverse.mp z))
  exact ⟨List.reverse_inj.mp e2, List.reverse_inj.mp e1⟩
theorem digits_of {i : Int} (h : 0 ≤ i) : ∀ c ∈ lst (Str.ofString (toString i)), 48 ≤ c ∧ c ≤ 57 := by
  obtain ⟨m, rfl⟩ := Int.eq_ofNat_of_zero_le h
  intro c hc
  have hc' : c ∈ (Nat.toDigits 10 m).map Char.toNat := by
    rw [← PySem.W.KIN.signs_num]
    exact hc
  obtain ⟨ch, hch, e⟩ := List.mem_map.mp hc'
  have r := Nat.isDigit_of_mem_toDigits (by decide) (by decide) hch
  have r2 : (48 : UInt32) ≤ ch.val ∧ ch.val ≤ 57 := by simpa [Char.isDigit] using r
  rw [← e]
  exact ⟨UInt32.le_iff_toNat_le.mp r2.1, UInt32.le_iff_toNat_le.mp r2.2⟩
theorem digits_inj {i j : Int} (hi : 0 ≤ i) (hj : 0 ≤ j) (h : lst (Str.ofString (toString i)) = lst (Str.ofString (toString j))) : i = j := by
  obtain ⟨m, rfl⟩ := Int.eq_ofNat_of_zero_le hi
  obtain ⟨n, rfl⟩ := Int.eq_ofNat_of_zero_le hj
  have h2 : (Nat.toDigits 10 m).map Char.toNat = (Nat.toDigits 10 n).map Char.toNat := by
    rw [← PySem.W.KIN.signs_num, ← PySem.W.KIN.signs_num]
    exact h
  have e := PySem.W.KIN.val_back m
  rw [h2, PySem.W.KIN.val_back] at e
  rw [e]
theorem text_no {c : Nat} (h1 : c ∉ lst (", " : Str)) (h0 : c ∉ lst ("" : Str)) : ∀ (ts : List Str) (k : Nat) (acc : Str), c ∉ lst acc → (∀ t ∈ ts, c ∉ lst t) → c ∉ lst (textFrom k acc ts)
  | [], _, _, ha, _ => ha
  | t :: ts, k, acc, ha, ht => by
    refine text_no h1 h0 ts (k + 1) _ ?_ fun u hu => ht u (List.mem_cons_of_mem _ hu)
    rw [lst_app, lst_app, List.mem_append, List.mem_append]
    rintro ((z | z) | z)
    · exact ha z
    · split at z
      · exact h1 z
      · exact h0 z
    · exact ht t List.mem_cons_self z
theorem no_digit {i : Int} (h : 0 ≤ i) {c : Nat} (hc : c < 48 ∨ 57 < c) : c ∉ lst (Str.ofString (toString i)) := fun z => by
  have := digits_of h c z
  omega
theorem no_pair {p : Int × Int} (h1 : 0 ≤ p.1) (h2 : 0 ≤ p.2) : 39 ∉ lst (pairD p).shown := by
  have e : (pairD p).shown = (("(" : Str) ++ (Str.ofString (toString p.1) ++ (", " : Str) ++ Str.ofString (toString p.2))) ++ (")" : Str) := rfl
  rw [e, lst_app, lst_app, lst_app, lst_app]
  simp only [List.mem_append, not_or]
  exact ⟨⟨by decide +kernel, ⟨no_digit h1 (.inl (by decide)), by decide +kernel⟩, no_digit h2 (.inl (by decide))⟩, by decide +kernel⟩
theorem shownAll_map {α : Type} (f : α → PyData) : ∀ l : List α, PyData.shownAll (l.map f) = l.map fun x => (f x).shown
  | [] => rfl
  | x :: l => by
    show (f x).shown :: PyData.shownAll (l.map f) = _
    rw [shownAll_map f l]
    rfl
theorem no_asks {b : Bd} {s : MS} (h : WfM b s) : 39 ∉ lst (PyData.list s.asksD).shown := by
  have e : (PyData.list s.asksD).shown = textFrom 0 "[" (PyData.shownAll s.asksD) ++ ("]" : Str) := by
    show PyData.shown (.list s.asksD) = _
    rw [PyData.shown]
    rfl
  rw [e, lst_app, List.mem_append]
  rintro (z | z)
  · refine text_no (by decide +kernel) (by decide +kernel) _ _ _ (by decide +kernel) (fun t ht => ?_) z
    unfold MS.asksD at ht
    rw [shownAll_map] at ht
    obtain ⟨p, hp, rfl⟩ := List.mem_map.mp ht
    obtain ⟨a1, a2, a3, a4⟩ := h.asks p hp
    exact no_pair a1 a3
  · exact absurd z (by decide +kernel)
theorem run_text : lst ((", " : Str) ++ reprText (Mode.run).str) = [44, 32, 39, 114, 117, 110, 110, 105, 110, 103] ++ [39] := by decide +kernel
/-- the text, cut at its last quote and its last bracket ahead of that -/
theorem tell_cut {s : MS} (hm : s.mode = .run) : ∃ x : List Nat, lst s.tell = (x ++ 93 :: (44 :: 32 :: lst (Str.ofString (toString s.steps)))) ++ [44, 32, 39, 114, 117, 110, 110, 105, 110, 103] ++ 39 :: (lst (", " : Str) ++ lst (PyData.list s.asksD).shown ++ lst ("]" : Str)) := by
  have e : s.tell = textFrom 0 "[" [s.momD.shown, (PyData.list s.rowD).shown, Str.ofString (toString s.steps), reprText s.mode.str, (PyData.list s.asksD).shown] ++ ("]" : Str) := by
    unfold MS.tell MS.tellD
    rw [PyData.shown]
    simp only [PyData.shownAll]
    rfl
  have er : (PyData.list s.rowD).shown = textFrom 0 "[" (PyData.shownAll s.rowD) ++ ("]" : Str) := by
    rw [PyData.shown]
    rfl
  have e2 : textFrom 0 "[" [s.momD.shown, (PyData.list s.rowD).shown, Str.ofString (toString s.steps), reprText s.mode.str, (PyData.list s.asksD).shown] =
      (((((("[" : Str) ++ ("" : Str) ++ s.momD.shown) ++ (", " : Str) ++ (PyData.list s.rowD).shown) ++ (", " : Str) ++ Str.ofString (toString s.steps)) ++ (", " : Str) ++ reprText s.mode.str) ++ (", " : Str) ++ (PyData.list s.asksD).shown) := rfl
  have eb : lst ("]" : Str) = [93] := by decide +kernel
  have ec : lst (", " : Str) = [44, 32] := by decide +kernel
  have rt : lst (", " : Str) ++ lst (reprText s.mode.str) = [44, 32, 39, 114, 117, 110, 110, 105, 110, 103] ++ [39] := by
    rw [hm, ← lst_app]
    exact run_text
  refine ⟨lst ("[" : Str) ++ lst ("" : Str) ++ lst s.momD.shown ++ lst (", " : Str) ++ lst (textFrom 0 "[" (PyData.shownAll s.rowD)), ?_⟩
  rw [e, e2, er]
  simp only [lst_app]
  rw [eb, ec]
  rw [ec] at rt
  have rt2 : ∀ u : List Nat, [44, 32] ++ (lst (reprText s.mode.str) ++ u) = [44, 32, 39, 114, 117, 110, 110, 105, 110, 103] ++ (39 :: u) := fun u => by
    rw [← List.append_assoc, rt, List.append_assoc]
    rfl
  simp only [List.append_assoc]
  rw [rt2]
  simp only [List.cons_append, List.nil_append, List.append_assoc]
theorem told_ne {b : Bd} {s t : MS} (hs : WfM b s) (ht : WfM b t) (ms : s.mode = .run) (mt : t.mode = .run) (h : s.steps ≠ t.steps) : s.tell ≠ t.tell := fun e => by
  obtain ⟨x, ex⟩ := tell_cut ms
  obtain ⟨y, ey⟩ := tell_cut mt
  have q : lst s.tell = lst t.tell := by rw [e]
  rw [ex, ey] at q
  have no : ∀ {u : MS}, WfM b u → 39 ∉ lst (", " : Str) ++ lst (PyData.list u.asksD).shown ++ lst ("]" : Str) := fun {u} hu => by
    rw [List.mem_append, List.mem_append]
    rintro ((z | z) | z)
    · exact absurd z (by decide +kernel)
    · exact no_asks hu z
    · exact absurd z (by decide +kernel)
  obtain ⟨q1, _⟩ := last_split q (no hs) (no ht)
  have q2 := List.append_cancel_right q1
  have nd : ∀ {i : Int}, 0 ≤ i → 93 ∉ 44 :: 32 :: lst (Str.ofString (toString i)) := fun {i} hi z => by
    rcases List.mem_cons.mp z with z | z
    · cases z
    · rcases List.mem_cons.mp z with z | z
      · cases z
      · exact no_digit hi (.inr (by decide)) z
  obtain ⟨_, q3⟩ := last_split q2 (nd hs.steps) (nd ht.steps)
  exact h (digits_inj hs.steps ht.steps (List.cons.inj (List.cons.inj q3).2).2)
end K25
set_option maxHeartbeats 2000000
/-! what the heap holds: tuple data, the law's state, a machine -/
namespace K25
open PySem PySem.Spec PyProof.Rows L2
/-! ### data made of tuples -/
mutual
inductive TD (H : Hp) : V → PyData → Prop
  | non : TD H .non .none
  | int (i : Int) : TD H (.int i) (.int i)
  | str (x : Str) : TD H (.str x) (.str x)
  | tup {a : Addr} {xs : List V} {ds : List PyData} : H a = some (.tup xs) → TDs H xs ds → TD H (.ref a) (.tuple ds)
inductive TDs (H : Hp) : List V → List PyData → Prop
  | nil : TDs H [] []
  | cons {v : V} {vs : List V} {d : PyData} {ds : List PyData} : TD H v d → TDs H vs ds → TDs H (v :: vs) (d :: ds)
end
/-- the tuples are kept -/
def KT (H H' : Hp) : Prop := ∀ b xs, H b = some (.tup xs) → H' b = some (.tup xs)
mutual
theorem TD.mono {H H' : Hp} (k : KT H H') : ∀ (d : PyData) (v : V), TD H v d → TD H' v d
  | .none, _, h => by
    cases h
    exact .non
  | .bool _, _, h => by cases h
  | .int i, _, h => by
    cases h
    exact .int i
  | .str x, _, h => by
    cases h
    exact .str x
  | .list _, _, h => by cases h
  | .tuple ds, _, h => by
    cases h with
    | tup h1 h2 => exact .tup (k _ _ h1) (TDs.mono k ds _ h2)
  | .dict _, _, h => by cases h
theorem TDs.mono {H H' : Hp} (k : KT H H') : ∀ (ds : List PyData) (vs : List V), TDs H vs ds → TDs H' vs ds
  | [], _, h => by
    cases h
    exact .nil
  | d :: ds, _, h => by
    cases h with
    | cons h1 h2 => exact .cons (TD.mono k d _ h1) (TDs.mono k ds _ h2)
end
theorem TD.kt {H H' : Hp} {v : V} {d : PyData} (h : TD H v d) (k : KT H H') : TD H' v d := TD.mono k d v h
theorem TDs.kt {H H' : Hp} {vs : List V} {ds : List PyData} (h : TDs H vs ds) (k : KT H H') : TDs H' vs ds := TDs.mono k ds vs h
mutual
theorem TD.dpA {K : PySem.W.Frag} {H : Hp} : ∀ (d : PyData) (v : V), TD H v d → Dp K H v d
  | .none, _, h => by
    cases h
    exact .non
  | .bool _, _, h => by cases h
  | .int i, _, h => by
    cases h
    exact .int i
  | .str x, _, h => by
    cases h
    exact .str x
  | .list _, _, h => by cases h
  | .tuple ds, _, h => by
    cases h with
    | tup h1 h2 => exact .tup (SqT.of h1) (TDs.dpA ds _ h2)
  | .dict _, _, h => by cases h
theorem TDs.dpA {K : PySem.W.Frag} {H : Hp} : ∀ (ds : List PyData) (vs : List V), TDs H vs ds → DpAll K H vs ds
  | [], _, h => by
    cases h
    exact .nil
  | d :: ds, _, h => by
    cases h with
    | cons h1 h2 => exact .cons (TD.dpA d _ h1) (TDs.dpA ds _ h2)
end
theorem TD.dp {K : PySem.W.Frag} {H : Hp} {v : V} {d : PyData} (h : TD H v d) : Dp K H v d := TD.dpA d v h
theorem TDs.dp {K : PySem.W.Frag} {H : Hp} {vs : List V} {ds : List PyData} (h : TDs H vs ds) : DpAll K H vs ds := TDs.dpA ds vs h
theorem TD.inv {H : Hp} {v : V} {ds : List PyData} (h : TD H v (.tuple ds)) : ∃ a xs, v = .ref a ∧ H a = some (.tup xs) ∧ TDs H xs ds := by
  cases h with
  | tup h1 h2 => exact ⟨_, _, rfl, h1, h2⟩
theorem TD.inv_int {H : Hp} {v : V} {i : Int} (h : TD H v (.int i)) : v = .int i := by
  cases h
  rfl
theorem TDs.length {H : Hp} : ∀ {vs : List V} {ds : List PyData}, TDs H vs ds → vs.length = ds.length
  | _, [], .nil => rfl
  | _, _ :: _, .cons _ t => congrArg Nat.succ (TDs.length t)
theorem TDs.get {H : Hp} : ∀ {vs : List V} {ds : List PyData} {i : Nat} {d : PyData}, TDs H vs ds → ds[i]? = some d → ∃ v, vs[i]? = some v ∧ TD H v d
  | _, [], i, d, .nil, e => by simp at e
  | _, c :: ds, 0, d, .cons h t, e => by
    have e' : c = d := by simpa using e
    subst e'
    exact ⟨_, rfl, h⟩
  | _, _ :: ds, i + 1, d, .cons h t, e => by
    obtain ⟨v, e1, e2⟩ := TDs.get (i := i) (d := d) t (by simpa using e)
    exact ⟨v, by simpa using e1, e2⟩
theorem TDs.app {H : Hp} : ∀ {xs ys : List V} {ds es : List PyData}, TDs H xs ds → TDs H ys es → TDs H (xs ++ ys) (ds ++ es)
  | _, _, [], _, .nil, s => s
  | _, _, _ :: _, _, .cons h t, s => .cons h (TDs.app t s)
theorem TDs.one {H : Hp} {v : V} {d : PyData} (h : TD H v d) : TDs H [v] [d] := .cons h .nil
theorem TDs.ofInts {H : Hp} : ∀ l : List Int, TDs H (l.map V.int) (l.map PyData.int)
  | [] => .nil
  | i :: l => .cons (.int i) (TDs.ofInts l)
theorem TDs.toInts {H : Hp} : ∀ {l : List Int} {vs : List V}, TDs H vs (l.map PyData.int) → vs = l.map V.int
  | [], _, h => by
    cases h
    rfl
  | i :: l, _, h => by
    cases h with
    | cons h1 h2 => rw [h1.inv_int, TDs.toInts h2, List.map_cons]
theorem TDs.dropLast {H : Hp} : ∀ {vs : List V} {ds : List PyData}, TDs H vs ds → TDs H vs.dropLast ds.dropLast
  | _, [], .nil => .nil
  | _, [_], .cons _ .nil => .nil
  | _, _ :: _ :: _, .cons h (.cons h2 t) => .cons h (TDs.dropLast (.cons h2 t))
theorem TD.ints {H : Hp} {v : V} {l : List Int} (h : TD H v (intsD l)) : ∃ a, v = .ref a ∧ H a = some (.tup (l.map V.int)) := by
  obtain ⟨a, xs, e, h1, h2⟩ := h.inv
  rw [h2.toInts] at h1
  exact ⟨a, e, h1⟩
theorem TD.ofInts {H : Hp} {a : Addr} {l : List Int} (h : H a = some (.tup (l.map V.int))) : TD H (.ref a) (intsD l) := .tup h (TDs.ofInts l)

/-! ### what a call may touch -/
/-- all that is tracked stays, but what lies in F and is no tuple -/
def Off (F : Addr → Prop) (H H' : Hp) : Prop := ∀ b o, H b = some o → (F b → ∃ xs, o = .tup xs) → H' b = some o
section
variable {F G : Addr → Prop} {H H1 H2 : Hp} {a p : Addr} {o : HO}
theorem Off.refl (F : Addr → Prop) (H : Hp) : Off F H H := fun _ _ e _ => e
theorem Off.trans (h1 : Off F H H1) (h2 : Off F H1 H2) : Off F H H2 := fun b o e k => h2 b o (h1 b o e k) k
theorem Off.kt (h : Off F H H1) : KT H H1 := fun b xs e => h b _ e fun _ => ⟨xs, rfl⟩
theorem Off.same (h : Same H H1) : Off F H H1 := fun b o e _ => h b o e
theorem Off.mono (h : Off F H H1) (k : ∀ b, F b → G b) : Off G H H1 := fun b o e q => h b o e fun z => q (k b z)
theorem Off.new (h : H p = none) : Off F H (upd H p o) := fun b u e _ => by
  rw [upd_ne (ne_of_none e h)]
  exact e
theorem Off.upd (hF : F a) (hn : ∀ xs, H a ≠ some (.tup xs)) : Off F H (upd H a o) := fun b u e k => by
  by_cases z : b = a
  · subst z
    obtain ⟨xs, rfl⟩ := k hF
    exact absurd e (hn xs)
  · rw [upd_ne z]
    exact e
theorem Off.at (h : Off F H H1) (e : H a = some o) (n : ¬ F a) : H1 a = some o := h a o e fun z => absurd z n
theorem Off.tup {xs : List V} (h : Off F H H1) (e : H a = some (.tup xs)) : H1 a = some (.tup xs) := h.kt a xs e
/-- an object that was not there before is not among what was -/
theorem Off.free (h : Off F H H1) (e : H1 p = none) (n : ¬ F p) : H p = none := by
  cases q : H p with
  | none => rfl
  | some u =>
    rw [h.at q n] at e
    cases e
theorem same_new (h : H p = none) : Same H (L2.upd H p o) := fun b u e => by
  rw [upd_ne (ne_of_none e h)]
  exact e
theorem Same.kt (h : Same H H1) : KT H H1 := fun b xs e => h b _ e
theorem KT.trans (h : KT H H1) (h2 : KT H1 H2) : KT H H2 := fun b xs e => h2 b xs (h b xs e)
theorem KT.refl (H : Hp) : KT H H := fun _ _ e => e
theorem upd_id (h : H a = some o) : L2.upd H a o = H := by
  funext b
  by_cases z : b = a
  · rw [z, upd_same, h]
  · rw [upd_ne z]
end

/-! ### the law's state -/
def kvS (g c : Addr) (r t : Int) : List (Key × V) := [(.inr "great", .ref g), (.inr "cells", .ref c), (.inr "rest", .int r), (.inr "turn", .int t)]
/-- the dict at a with its two lists -/
def LS (a g c : Addr) (H : Hp) : Prop := ∃ (gs cs : List Int) (r t : Int), H a = some (.dK (kvS g c r t)) ∧ H g = some (.lst (gs.map V.int)) ∧ H c = some (.lst (cs.map V.int))
def SF (a g c : Addr) : Addr → Prop := fun b => b = a ∨ b = g ∨ b = c
theorem LS.there {a g c : Addr} {H : Hp} (h : LS a g c H) {b : Addr} (k : SF a g c b) : ∃ o, H b = some o ∧ ∀ xs, o ≠ .tup xs := by
  obtain ⟨gs, cs, r, t, h1, h2, h3⟩ := h
  rcases k with e | e | e
  · exact ⟨_, by rw [e]; exact h1, fun xs z => by cases z⟩
  · exact ⟨_, by rw [e]; exact h2, fun xs z => by cases z⟩
  · exact ⟨_, by rw [e]; exact h3, fun xs z => by cases z⟩
theorem LS.out {a g c p : Addr} {H : Hp} (h : LS a g c H) (n : H p = none) : ¬ SF a g c p := fun k => by
  obtain ⟨o, e, _⟩ := h.there k
  rw [n] at e
  cases e
/-- kept by whatever leaves the three alone -/
theorem LS.off {a g c : Addr} {H H1 : Hp} {F : Addr → Prop} (h : LS a g c H) (k : Off F H H1) (n : ∀ b, SF a g c b → ¬ F b) : LS a g c H1 := by
  obtain ⟨gs, cs, r, t, h1, h2, h3⟩ := h
  exact ⟨gs, cs, r, t, k.at h1 (n a (.inl rfl)), k.at h2 (n g (.inr (.inl rfl))), k.at h3 (n c (.inr (.inr rfl)))⟩
theorem LS.same {a g c : Addr} {H H1 : Hp} (h : LS a g c H) (k : Same H H1) : LS a g c H1 := by
  obtain ⟨gs, cs, r, t, h1, h2, h3⟩ := h
  exact ⟨gs, cs, r, t, k _ _ h1, k _ _ h2, k _ _ h3⟩

/-! ### a machine -/
def mf (vb : V) (cl rg rw_ : Addr) (st : Int) (md : Str) (rm ad : Int) (ak : Addr) (at_ : V) : List (Str × V) :=
  [("m_board", vb), ("m_cells", .ref cl), ("m_registers", .ref rg), ("m_row", .ref rw_), ("m_steps", .int st), ("m_state", .str md), ("m_room", .int rm), ("m_address", .int ad), ("m_asks", .ref ak), ("at", at_)]
section
variable {vb at_ : V} {cl rg rw_ ak : Addr} {st rm ad : Int} {md : Str}
theorem lk_board : (mf vb cl rg rw_ st md rm ad ak at_).lookup ("m_board" : Str) = some vb := by kernel_rfl
theorem lk_cells : (mf vb cl rg rw_ st md rm ad ak at_).lookup ("m_cells" : Str) = some (V.ref cl) := by kernel_rfl
theorem lk_regs : (mf vb cl rg rw_ st md rm ad ak at_).lookup ("m_registers" : Str) = some (V.ref rg) := by kernel_rfl
theorem lk_row : (mf vb cl rg rw_ st md rm ad ak at_).lookup ("m_row" : Str) = some (V.ref rw_) := by kernel_rfl
theorem lk_steps : (mf vb cl rg rw_ st md rm ad ak at_).lookup ("m_steps" : Str) = some (.int st) := by kernel_rfl
theorem lk_state : (mf vb cl rg rw_ st md rm ad ak at_).lookup ("m_state" : Str) = some (.str md) := by kernel_rfl
theorem lk_room : (mf vb cl rg rw_ st md rm ad ak at_).lookup ("m_room" : Str) = some (.int rm) := by kernel_rfl
theorem lk_addr : (mf vb cl rg rw_ st md rm ad ak at_).lookup ("m_address" : Str) = some (.int ad) := by kernel_rfl
theorem lk_asks : (mf vb cl rg rw_ st md rm ad ak at_).lookup ("m_asks" : Str) = some (V.ref ak) := by kernel_rfl
theorem lk_at : (mf vb cl rg rw_ st md rm ad ak at_).lookup ("at" : Str) = some at_ := by kernel_rfl
theorem lk_go : (mf vb cl rg rw_ st md rm ad ak at_).lookup ("go" : Str) = none := by kernel_rfl
theorem lk_cross : (mf vb cl rg rw_ st md rm ad ak at_).lookup ("cross_over" : Str) = none := by kernel_rfl
theorem lk_cellsM : (mf vb cl rg rw_ st md rm ad ak at_).lookup ("cells" : Str) = none := by kernel_rfl
theorem lk_put : (mf vb cl rg rw_ st md rm ad ak at_).lookup ("put" : Str) = none := by kernel_rfl
theorem lk_copy : (mf vb cl rg rw_ st md rm ad ak at_).lookup ("copy" : Str) = none := by kernel_rfl
theorem lk_moment : (mf vb cl rg rw_ st md rm ad ak at_).lookup ("moment" : Str) = none := by kernel_rfl
theorem pu_cells {y : Addr} : putF "m_cells" (.ref y) (mf vb cl rg rw_ st md rm ad ak at_) = mf vb y rg rw_ st md rm ad ak at_ := by kernel_rfl
theorem pu_regs {y : Addr} : putF "m_registers" (.ref y) (mf vb cl rg rw_ st md rm ad ak at_) = mf vb cl y rw_ st md rm ad ak at_ := by kernel_rfl
theorem pu_row {y : Addr} : putF "m_row" (.ref y) (mf vb cl rg rw_ st md rm ad ak at_) = mf vb cl rg y st md rm ad ak at_ := by kernel_rfl
theorem pu_steps {y : Int} : putF "m_steps" (.int y) (mf vb cl rg rw_ st md rm ad ak at_) = mf vb cl rg rw_ y md rm ad ak at_ := by kernel_rfl
theorem pu_state {y : Str} : putF "m_state" (.str y) (mf vb cl rg rw_ st md rm ad ak at_) = mf vb cl rg rw_ st y rm ad ak at_ := by kernel_rfl
theorem pu_room {y : Int} : putF "m_room" (.int y) (mf vb cl rg rw_ st md rm ad ak at_) = mf vb cl rg rw_ st md y ad ak at_ := by kernel_rfl
theorem pu_addr {y : Int} : putF "m_address" (.int y) (mf vb cl rg rw_ st md rm ad ak at_) = mf vb cl rg rw_ st md rm y ak at_ := by kernel_rfl
theorem pu_asks {y : Addr} : putF "m_asks" (.ref y) (mf vb cl rg rw_ st md rm ad ak at_) = mf vb cl rg rw_ st md rm ad y at_ := by kernel_rfl
theorem pu_at {y : V} : putF "at" y (mf vb cl rg rw_ st md rm ad ak at_) = mf vb cl rg rw_ st md rm ad ak y := by kernel_rfl
theorem mf_len : (mf vb cl rg rw_ st md rm ad ak at_).length < 1000 := by
  show 10 < 1000
  decide
end
/-- as __init__ lays them -/
theorem mf_made {vb at_ : V} {cl rg rw_ ak : Addr} {st rm ad : Int} {md : Str} :
    putF "at" at_ (putF "m_asks" (.ref ak) (putF "m_address" (.int ad) (putF "m_room" (.int rm) (putF "m_state" (.str md) (putF "m_steps" (.int st) (putF "m_row" (.ref rw_) (putF "m_registers" (.ref rg) (putF "m_cells" (.ref cl) (putF "m_board" vb []))))))))) = mf vb cl rg rw_ st md rm ad ak at_ := by kernel_rfl
def bdD (b : Bd) : PyData := .tuple [.int b.dep, .tuple (b.wires.map fun ws => .tuple (ws.map pairD)), .tuple (b.secs.map fun s => .tuple [intsD s.1, intsD s.2])]
/-- the lists of cells -/
def CellsAt (H : Hp) (cas : List Addr) (cs : List (List Int)) : Prop := cas.length = cs.length ∧ ∀ (i : Nat) (ca : Addr) (c : List Int), cas[i]? = some ca → cs[i]? = some c → H ca = some (.lst (c.map V.int))
/-- the addresses of a machine's objects -/
structure MA where
  m : Addr
  dx : Addr
  cl : Addr
  rg : Addr
  rw_ : Addr
  ak : Addr
  cas : List Addr
def MA.lists (A : MA) : List Addr := A.cl :: A.rg :: A.rw_ :: A.ak :: A.cas
def MA.foot (A : MA) : Addr → Prop := fun p => p = A.m ∨ p ∈ A.lists
/-- the machine's objects at A, in state s; stp its count of steps as told, ad what its attribute at holds -/
structure MR (C : Addr) (H : Hp) (A : MA) (b : Bd) (s : MS) (stp : Int) (ad : PyData) : Prop where
  nd : A.lists.Nodup
  ex : ∃ vb av, TD H vb (bdD b) ∧ TD H av ad ∧ H A.m = some (.ins C A.dx (mf vb A.cl A.rg A.rw_ stp s.mode.str s.room s.addr A.ak av))
  cl : H A.cl = some (.lst (A.cas.map V.ref))
  cs : CellsAt H A.cas s.cells
  rg : H A.rg = some (.lst (s.regs.map V.int))
  row : ∃ vs, H A.rw_ = some (.lst vs) ∧ TDs H vs s.rowD
  asks : ∃ vs, H A.ak = some (.lst vs) ∧ TDs H vs s.asksD
def MAt (C : Addr) (H : Hp) (A : MA) (b : Bd) (s : MS) : Prop := MR C H A b s s.steps s.atD
section
variable {C : Addr} {H H1 : Hp} {A : MA} {b : Bd} {s : MS} {stp : Int} {ad : PyData}
theorem MR.there (h : MR C H A b s stp ad) {p : Addr} (k : A.foot p) : ∃ o, H p = some o ∧ ∀ xs, o ≠ .tup xs := by
  rcases k with e | k
  · obtain ⟨vb, av, _, _, q⟩ := h.ex
    exact ⟨_, by rw [e]; exact q, fun xs z => by cases z⟩
  · rcases List.mem_cons.mp k with e | k
    · exact ⟨_, by rw [e]; exact h.cl, fun xs z => by cases z⟩
    · rcases List.mem_cons.mp k with e | k
      · exact ⟨_, by rw [e]; exact h.rg, fun xs z => by cases z⟩
      · rcases List.mem_cons.mp k with e | k
        · obtain ⟨vs, q, _⟩ := h.row
          exact ⟨_, by rw [e]; exact q, fun xs z => by cases z⟩
        · rcases List.mem_cons.mp k with e | k
          · obtain ⟨vs, q, _⟩ := h.asks
            exact ⟨_, by rw [e]; exact q, fun xs z => by cases z⟩
          · obtain ⟨i, hi, e⟩ := List.mem_iff_getElem.mp k
            obtain ⟨l1, q⟩ := h.cs
            have hj : i < s.cells.length := by omega
            exact ⟨_, q i p s.cells[i] (by rw [List.getElem?_eq_getElem hi, e]) (List.getElem?_eq_getElem hj), fun xs z => by cases z⟩
/-- kept by whatever leaves its objects alone -/
theorem MR.off {F : Addr → Prop} (h : MR C H A b s stp ad) (k : Off F H H1) (n : ∀ p, A.foot p → ¬ F p) : MR C H1 A b s stp ad := by
  have kt := k.kt
  have at_ : ∀ {p : Addr} {o : HO}, A.foot p → H p = some o → H1 p = some o := fun hp e => k.at e (n _ hp)
  obtain ⟨vb, av, h1, h2, h3⟩ := h.ex
  obtain ⟨vs, r1, r2⟩ := h.row
  obtain ⟨us, a1, a2⟩ := h.asks
  refine ⟨h.nd, ⟨vb, av, h1.kt kt, h2.kt kt, at_ (.inl rfl) h3⟩, at_ (.inr List.mem_cons_self) h.cl, ⟨h.cs.1, fun i ca c e1 e2 => ?_⟩, at_ (.inr (List.mem_cons_of_mem _ List.mem_cons_self)) h.rg,
    ⟨vs, at_ (.inr (List.mem_cons_of_mem _ (List.mem_cons_of_mem _ List.mem_cons_self))) r1, r2.kt kt⟩, ⟨us, at_ (.inr (List.mem_cons_of_mem _ (List.mem_cons_of_mem _ (List.mem_cons_of_mem _ List.mem_cons_self)))) a1, a2.kt kt⟩⟩
  refine at_ (.inr ?_) (h.cs.2 i ca c e1 e2)
  exact List.mem_cons_of_mem _ (List.mem_cons_of_mem _ (List.mem_cons_of_mem _ (List.mem_cons_of_mem _ (List.mem_of_getElem? e1))))
theorem MR.same (h : MR C H A b s stp ad) (k : Same H H1) : MR C H1 A b s stp ad := h.off (F := fun _ => False) (Off.same k) fun _ _ z => z
/-- an object that is not tracked is none of the machine's -/
theorem MR.out (h : MR C H A b s stp ad) {p : Addr} (n : H p = none) : ¬ A.foot p := fun k => by
  obtain ⟨o, e, _⟩ := h.there k
  rw [n] at e
  cases e
end
end K25
set_option maxHeartbeats 2000000
/-! the program's text by places, what is known of it behind the top -/
namespace K25
open PySem PySem.Spec PyProof.Rows L2 He
def top (i : Nat) : Stmt := PySem.Challenge.pw_ownharm_k25_whole_runs_cut_anywhere.main.body.getD i (.Pass ⟨0, 0, 0, 0⟩)
def dG (x : Str) (i : Nat) : DefD := ⟨(x, none), x, x, defArgs (top i), defBody (top i), defScope (top i), [], []⟩
def dM (m q : Str) (j : Nat) : DefD := ⟨("Machine", some m), m, q, defArgs (inClass (top 33) j), defBody (inClass (top 33) j), defScope (inClass (top 33) j), [], []⟩
def fnL1 : List DefD := [dG "is_whole" 13, dG "is_number" 14, dG "are_unlike" 15, dG "are_numbers" 18, dG "is_section" 19, dG "are_board_wires" 20, dG "is_board" 21, dG "need_board" 22, dG "need_number" 23, dG "need_room_number" 24,
  dG "need_step_count" 29, dG "sum_step" 30, dG "cell_step" 31, dG "inner_step" 32, dG "machine_row" 34]
def fnL2 : List DefD := [dG "_law_begun" 36, dG "_law_mixed" 37, dG "_law_draw" 38, dG "_law_pick" 39, dG "_law_shuffled" 40, dG "_law_small" 41, dG "_law_caught" 42, dG "_law_set" 43, dG "_law_piece" 44, dG "_law_section" 45, dG "_law_noise" 46, dG "_law_wired" 47,
  dG "_law_counting_piece" 48, dG "_law_counting" 49, dG "_law_board" 50, dG "_law_told" 51, dG "law" 52]
def fnL3 : List DefD := [dM "__init__" "Machine.__init__" 0, dM "go" "Machine.go" 6, dM "cross_over" "Machine.cross_over" 7, dM "cells" "Machine.cells" 8, dM "put" "Machine.put" 9, dM "copy" "Machine.copy" 10, dM "moment" "Machine.moment" 11]
def fnL : List DefD := fnL1 ++ fnL2 ++ fnL3
def gsL : List DefD := [dM "row" "Machine.row" 1, dM "steps" "Machine.steps" 2, dM "state" "Machine.state" 3, dM "registers" "Machine.registers" 4, dM "open_asks" "Machine.open_asks" 5]
def gloL : List Str := (fnL1 ++ fnL2).map (·.name) ++ (["BadSteps", "OwnharmError", "Machine"] : List Str)
def freeL : List Str := ["isinstance", "int", "bool", "tuple", "len", "list", "range", "enumerate", "zip", "sum", "repr", "abs"]
def fieldL : List Str := ["m_board", "m_cells", "m_registers", "m_row", "m_steps", "m_state", "m_room", "m_address", "m_asks", "at"]
def methL : List Str := ["go", "cross_over", "cells", "put", "copy", "moment"]
def propL : List Str := ["row", "steps", "state", "registers", "open_asks"]
def intL : List (Str × Int) := [("MOST_NUMBER", 9999), ("MOST_DEPTH", 60), ("MOST_ROOMS", 6), ("MOST_IMPORTS", 8), ("MOST_DOORS", 6), ("MOST_CELLS", 4000), ("MOST_STEPS", 1000000), ("ENDS", -1), ("CROSSES", -2)]
def faL : List Fa := gloL.map Fa.glo ++ freeL.map Fa.free ++ fieldL.map (Fa.noat "Machine") ++ methL.map (Fa.meth "Machine") ++ intL.map (fun p => Fa.int p.1 p.2) ++ [.cls "Machine", .mkr "Machine", .exc "BadSteps", .exm "BadSteps" "OwnharmError" true]
def exL (K : PySem.W.Frag) : Bool := excB K (ga K "BadSteps") && (gsL.all fun d => okA K d (gAd K d.at_)) && propL.all fun f => propB K "Machine" f
def tfL : List Defn := [("law", none)]
abbrev FnI (K : PySem.W.Frag) (d : DefD) (f : Addr) (fd : FuncData) : Prop := FunD K d.name d.qual d.params d.body d.scope [] [] f fd
/-- what the top has left -/
structure Txt (K : PySem.W.Frag) (mg : Str → Option Value) : Prop where
  glo : ∀ (i : Nat) (x : Str), gloL[i]? = some x → mg x = some (.ref (ga K x))
  free : ∀ (i : Nat) (x : Str), freeL[i]? = some x → mg x = none
  noat : ∀ (i : Nat) (x : Str), fieldL[i]? = some x → NoAttr K (ga K "Machine") x
  meth : ∀ (i : Nat) (x : Str), methL[i]? = some x → Meth K (ga K "Machine") x (ma K (ga K "Machine") x)
  prop : ∀ (i : Nat) (x : Str), propL[i]? = some x → PropOf K (ga K "Machine") x (ma K (ga K "Machine") x) (gAd K ("Machine", some x))
  const : ∀ (i : Nat) (p : Str × Int), intL[i]? = some p → ∃ t, mg p.1 = some (.int p.2 t)
  defs : ∀ (i : Nat) (d : DefD), fnL[i]? = some d → ∃ fd, FnI K d (fAd K d.at_) fd
  gets : ∀ (i : Nat) (d : DefD), gsL[i]? = some d → ∃ fd, FnI K d (gAd K d.at_) fd
  cl : Cls K (ga K "Machine")
  maker : Mk K (ga K "Machine") (ma K (ga K "Machine") "__init__")
  exc : PySem.W.excIn K (ga K "BadSteps") veBase "ValueError.__new__" = true ∧ PySem.W.keepIn K (.ref (ga K "BadSteps")) = true ∧ PySem.W.subIn K (.ref (ga K "BadSteps")) (.type "BaseException") = some true ∧ PySem.W.typeIn K (.ref (ga K "BadSteps")) = some (.type "type")
  exm : PySem.W.exmOne K (.ref (ga K "BadSteps")) (.ref (ga K "OwnharmError")) = some true
  err : ExcC K (ga K "BadSteps")
theorem mem_at {α : Type} {l : List α} {i : Nat} {x : α} (h : l[i]? = some x) : x ∈ l := List.mem_of_getElem? h
theorem dfl_nil {d : DefD} (h : d ∈ fnL) : d.dfl = [] ∧ d.kwd = [] := by
  have all : fnL.all (fun d => d.dfl.isEmpty && d.kwd.isEmpty) = true := by rfl
  have q := List.all_eq_true.mp all d h
  obtain ⟨q1, q2⟩ := ba q
  exact ⟨List.isEmpty_iff.mp q1, List.isEmpty_iff.mp q2⟩
theorem txt_of {w : World} {h : Heap} {K : PySem.W.Frag} {mg : Str → Option Value} (X : K.In h) (G : h.Ns mainGlobals mg) (c : SaysP faL fnL tfL exL gsL w h K) : Txt K mg := by
  obtain ⟨c1, c2⟩ := c
  have D := c1.t.d
  have mem : ∀ {f : Fa}, f ∈ faL → f.ok K = true := fun hf => D.facts hf
  have in1 : ∀ {f : Fa} {l1 l2 l3 l4 l5 l6 : List Fa}, f ∈ l1 ∨ f ∈ l2 ∨ f ∈ l3 ∨ f ∈ l4 ∨ f ∈ l5 ∨ f ∈ l6 → f ∈ l1 ++ l2 ++ l3 ++ l4 ++ l5 ++ l6 := by
    intro f l1 l2 l3 l4 l5 l6 h
    simp only [List.mem_append]
    rcases h with h | h | h | h | h | h
    · exact .inl (.inl (.inl (.inl (.inl h))))
    · exact .inl (.inl (.inl (.inl (.inr h))))
    · exact .inl (.inl (.inl (.inr h)))
    · exact .inl (.inl (.inr h))
    · exact .inl (.inr h)
    · exact .inr h
  obtain ⟨e1, e3⟩ := ba c1.more
  obtain ⟨e1, e2⟩ := ba e1
  refine ⟨fun i x hx => ?_, fun i x hx => ?_, fun i x hx => ?_, fun i x hx => ?_, fun i x hx => ?_, fun i p hp => ?_, fun i d hd => ?_, fun i d hd => ?_, ?_, ?_, ?_, ?_, excB_ok e1⟩
  · exact glo_ok X G (mem (in1 (.inl (List.mem_map_of_mem (mem_at hx)))))
  · exact free_ok X G (mem (in1 (.inr (.inl (List.mem_map_of_mem (mem_at hx))))))
  · exact noat_ok (mem (in1 (.inr (.inr (.inl (List.mem_map_of_mem (mem_at hx)))))))
  · exact meth_ok (mem (in1 (.inr (.inr (.inr (.inl (List.mem_map_of_mem (mem_at hx))))))))
  · exact propB_ok (List.all_eq_true.mp e3 x (mem_at hx))
  · exact int_ok X G (mem (in1 (.inr (.inr (.inr (.inr (.inl (List.mem_map_of_mem (f := fun p : Str × Int => Fa.int p.1 p.2) (mem_at hp)))))))))
  · obtain ⟨fd, F⟩ := D.defs (mem_at hd)
    obtain ⟨z1, z2⟩ := dfl_nil (mem_at hd)
    have y1 : d.dvs K = [] := by
      unfold DefD.dvs
      rw [z1]
      rfl
    have y2 : d.kws K = [] := by
      unfold DefD.kws
      rw [z2]
      rfl
    rw [y1, y2] at F
    exact ⟨fd, F⟩
  · exact SaysP.get ⟨c1, c2⟩ i hd (List.all_eq_true.mp e2 d (mem_at hd))
  · exact cls_ok (mem (in1 (.inr (.inr (.inr (.inr (.inr List.mem_cons_self)))))))
  · exact mkr_ok (mem (in1 (.inr (.inr (.inr (.inr (.inr (List.mem_cons_of_mem _ List.mem_cons_self))))))))
  · exact exc_ok (mem (in1 (.inr (.inr (.inr (.inr (.inr (List.mem_cons_of_mem _ (List.mem_cons_of_mem _ List.mem_cons_self)))))))))
  · exact exm_ok (mem (in1 (.inr (.inr (.inr (.inr (.inr (List.mem_cons_of_mem _ (List.mem_cons_of_mem _ (List.mem_cons_of_mem _ List.mem_cons_self))))))))))
end K25
set_option maxHeartbeats 2000000
/-! short words: a def by its name, its promise and its calls; readings step by step -/
namespace K25
open PySem PySem.Spec PyProof.Rows L2 He
section
variable {K : PySem.W.Frag} {mg : Str → Option Value} (T : Txt K mg)
include T
theorem Txt.f_isinstance : mg "isinstance" = none := T.free 0 _ rfl
theorem Txt.f_int : mg "int" = none := T.free 1 _ rfl
theorem Txt.f_bool : mg "bool" = none := T.free 2 _ rfl
theorem Txt.f_tuple : mg "tuple" = none := T.free 3 _ rfl
theorem Txt.f_len : mg "len" = none := T.free 4 _ rfl
theorem Txt.f_list : mg "list" = none := T.free 5 _ rfl
theorem Txt.f_range : mg "range" = none := T.free 6 _ rfl
theorem Txt.f_enumerate : mg "enumerate" = none := T.free 7 _ rfl
theorem Txt.f_zip : mg "zip" = none := T.free 8 _ rfl
theorem Txt.f_sum : mg "sum" = none := T.free 9 _ rfl
theorem Txt.f_repr : mg "repr" = none := T.free 10 _ rfl
theorem Txt.f_abs : mg "abs" = none := T.free 11 _ rfl
theorem Txt.MOST_NUMBER : ∃ t, mg "MOST_NUMBER" = some (.int 9999 t) := T.const 0 _ rfl
theorem Txt.MOST_DEPTH : ∃ t, mg "MOST_DEPTH" = some (.int 60 t) := T.const 1 _ rfl
theorem Txt.MOST_ROOMS : ∃ t, mg "MOST_ROOMS" = some (.int 6 t) := T.const 2 _ rfl
theorem Txt.MOST_IMPORTS : ∃ t, mg "MOST_IMPORTS" = some (.int 8 t) := T.const 3 _ rfl
theorem Txt.MOST_DOORS : ∃ t, mg "MOST_DOORS" = some (.int 6 t) := T.const 4 _ rfl
theorem Txt.MOST_CELLS : ∃ t, mg "MOST_CELLS" = some (.int 4000 t) := T.const 5 _ rfl
theorem Txt.MOST_STEPS : ∃ t, mg "MOST_STEPS" = some (.int 1000000 t) := T.const 6 _ rfl
theorem Txt.ENDS : ∃ t, mg "ENDS" = some (.int (-1) t) := T.const 7 _ rfl
theorem Txt.CROSSES : ∃ t, mg "CROSSES" = some (.int (-2) t) := T.const 8 _ rfl
end
/-! ### defs -/
/-- the def that the module's name x stands for keeps the promise sp -/
structure DefOk (P : Program) (w : World) (K : PySem.W.Frag) (mg : Str → Option Value) (base : Heap) (CX : CXT) (k : Nat) (x : Str) (ps : List Str) (sp : Sp) : Prop where
  ex : ∃ fd, FnOk P w K mg base CX k (ga K x) fd ps sp ∧ Binds K fd ps []
  gl : mg x = some (.ref (ga K x))
  kp : PySem.W.keepIn K (.ref (ga K x)) = true
/-- a method of Machine -/
structure MethOk (P : Program) (w : World) (K : PySem.W.Frag) (mg : Str → Option Value) (base : Heap) (CX : CXT) (k : Nat) (m : Str) (ps : List Str) (sp : Sp) : Prop where
  ex : ∃ fd, FnOk P w K mg base CX k (ma K (ga K "Machine") m) fd ps sp ∧ Binds K fd ps []
/-- a property of Machine -/
structure PropOk (P : Program) (w : World) (K : PySem.W.Frag) (mg : Str → Option Value) (base : Heap) (CX : CXT) (k : Nat) (m : Str) (ps : List Str) (sp : Sp) : Prop where
  ex : ∃ fd, FnOk P w K mg base CX k (gAd K ("Machine", some m)) fd ps sp ∧ Binds K fd ps []
section
variable {P : Program} {w : World} {K : PySem.W.Frag} {mg : Str → Option Value} {base : Heap} {CX : CXT} {k : Nat} {x q : Str} {n i j : Nat} {N ps : List Str} {sp : Sp}
/-- how the parameters of such a def bind -/
abbrev BindBy (x q : Str) (st : Stmt) (ps : List Str) : Prop := ∀ (kV doc pm : Value) (an : Option Addr) (cdv ct : Value) (us : List Value), us.length = ps.length → bindArgs (PySem.W.fnOf x q (defArgs st) (defBody st) (defScope st) .none kV doc pm an cdv ct) ⟨us, []⟩ = pure (ps.zip us)
/-- the body's walk: a term of rules and its reading -/
abbrev BodyBy (P : Program) (w : World) (K : PySem.W.Frag) (mg : Str → Option Value) (base : Heap) (CX : CXT) (k : Nat) (N : List Str) (q : Str) (st : Stmt) (f : Addr) (sp : Sp) : Prop :=
  ∀ (cdv : Value) (A : Around) (outer : List Env) (s : Shared) (H : Hp) (vs : List V) (Q : VK) (E : XK), Room k (A.deeper (envOfC q (defScope st) s.heap.objs.size f cdv)) → sp vs H Q E →
    ∃ t, PSs (cxOf CX P w K mg base N q (defScope st) f cdv A outer s H E) (defBody st) t ∧ t { nx := fun _ H' => Q .non H', rt := Q } (L2.start N vs) H
abbrev BodyBy0 (P : Program) (w : World) (K : PySem.W.Frag) (mg : Str → Option Value) (base : Heap) (k : Nat) (N : List Str) (q : Str) (st : Stmt) (f : Addr) (sp : Sp) : Prop :=
  ∀ (cdv : Value) (A : Around) (outer : List Env) (s : Shared) (H : Hp) (vs : List V) (Q : VK) (E : XK), Room k (A.deeper (envOfC q (defScope st) s.heap.objs.size f cdv)) → sp vs H Q E →
    ∃ t, PSs (cxOf CX0 P w K mg base N q (defScope st) f cdv A outer s H E).nox (defBody st) t ∧ t { nx := fun _ H' => Q .non H', rt := Q } (L2.start N vs) H
theorem BodyBy0.by {st : Stmt} {f : Addr} (h : BodyBy0 P w K mg base k N q st f sp) : BodyBy P w K mg base CX0 k N q st f sp := fun cdv A outer s H vs Q E hr hs => by
  obtain ⟨t, h1, h2⟩ := h cdv A outer s H vs Q E hr hs
  exact ⟨t, h1.nox, h2⟩
theorem defX (T : Txt K mg) (hi : fnL[i]? = some (dG x n)) (hx : gloL[j]? = some x) (S : FnScope N ps (defScope (top n))) (hb : BindBy x x (top n) ps) (len : ∀ vs H Q E, sp vs H Q E → vs.length = ps.length)
    (hbody : BodyBy P w K mg base CX k N x (top n) (ga K x) sp) : DefOk P w K mg base CX (k + 1) x ps sp := by
  obtain ⟨fd, F⟩ := T.defs i _ hi
  exact ⟨⟨fd, FunD.ok F S len hbody, FunD.bindsN F hb⟩, T.glo j x hx, F.kp⟩
theorem def0 (T : Txt K mg) (hi : fnL[i]? = some (dG x n)) (hx : gloL[j]? = some x) (S : FnScope N ps (defScope (top n))) (hb : BindBy x x (top n) ps) (len : ∀ vs H Q E, sp vs H Q E → vs.length = ps.length)
    (hbody : BodyBy0 P w K mg base k N x (top n) (ga K x) sp) : DefOk P w K mg base CX0 (k + 1) x ps sp := defX T hi hx S hb len hbody.by
theorem methX (T : Txt K mg) (hi : fnL[i]? = some (dM x q n)) (S : FnScope N ps (defScope (inClass (top 33) n))) (hb : BindBy x q (inClass (top 33) n) ps) (len : ∀ vs H Q E, sp vs H Q E → vs.length = ps.length)
    (hbody : BodyBy P w K mg base CX k N q (inClass (top 33) n) (ma K (ga K "Machine") x) sp) : MethOk P w K mg base CX (k + 1) x ps sp := by
  obtain ⟨fd, F⟩ := T.defs i _ hi
  exact ⟨fd, FunD.ok F S len hbody, FunD.bindsN F hb⟩
theorem meth0 (T : Txt K mg) (hi : fnL[i]? = some (dM x q n)) (S : FnScope N ps (defScope (inClass (top 33) n))) (hb : BindBy x q (inClass (top 33) n) ps) (len : ∀ vs H Q E, sp vs H Q E → vs.length = ps.length)
    (hbody : BodyBy0 P w K mg base k N q (inClass (top 33) n) (ma K (ga K "Machine") x) sp) : MethOk P w K mg base CX0 (k + 1) x ps sp := methX T hi S hb len hbody.by
theorem prop0 (T : Txt K mg) (hi : gsL[i]? = some (dM x q n)) (S : FnScope N ps (defScope (inClass (top 33) n))) (hb : BindBy x q (inClass (top 33) n) ps) (len : ∀ vs H Q E, sp vs H Q E → vs.length = ps.length)
    (hbody : BodyBy0 P w K mg base k N q (inClass (top 33) n) (gAd K ("Machine", some x)) sp) : PropOk P w K mg base CX0 (k + 1) x ps sp := by
  obtain ⟨fd, F⟩ := T.gets i _ hi
  exact ⟨fd, FunD.ok F S len hbody.by, FunD.bindsN F hb⟩
end
/-! ### calls -/
section
variable {X : Cx} {CX : CXT} {k : Nat} {x m : Str} {ps : List Str} {sp : Sp} {E : XK} {p pos apos : Pos} {e o : Expr} {es : List Expr} {ta : TE} {t : TA}
theorem pe_const {i : Int} (hg : Gl X x) (h : ∃ t, X.mg x = some (.int i t)) (hd : (x == ("__debug__" : Str)) = false := by decide) : PE X (.Name x pos) (tC (.int i)) := by
  obtain ⟨t, h⟩ := h
  exact pe_glob hg h ⟨t, rfl⟩ hd
theorem pe_defX (D : DefOk X.prog X.w X.K X.mg X.base CX k x ps sp) (hr : Room k X.A) (hg : Gl X x) (hx : Passes CX X E) (ha : PA X (e :: es) t)
    (hdb : (x == ("__debug__" : Str)) = false := by decide) (he : starEach (e :: es) X.env = (false, eval e X.env) :: starEach es X.env := by rfl) (hpl : (backTo pos (starEach es X.env)).any (·.1) = false := by rfl) : PE X (.Call (.Name x p) (e :: es) [] pos) (tCall sp [] E t) := by
  obtain ⟨fd, F, b⟩ := D.ex
  exact pe_call F hr hg D.gl D.kp b .nil hx ha hdb he hpl
theorem pe_def (D : DefOk X.prog X.w X.K X.mg X.base CX0 k x ps sp) (hr : Room k X.A) (hg : Gl X x) (ha : PA X (e :: es) t)
    (hdb : (x == ("__debug__" : Str)) = false := by decide) (he : starEach (e :: es) X.env = (false, eval e X.env) :: starEach es X.env := by rfl) (hpl : (backTo pos (starEach es X.env)).any (·.1) = false := by rfl) : PE X (.Call (.Name x p) (e :: es) [] pos) (tCall sp [] E0 t) :=
  pe_defX D hr hg pass0 ha hdb he hpl
theorem pe_me {pl : Sem Bool} {i : Nat} (he : PE X o ta) (T : Txt X.K X.mg) (hm : methL[i]? = some m) (D : MethOk X.prog X.w X.K X.mg X.base CX k m ps sp) (hr : Room k X.A) (hx : Passes CX X E) (ha : PA X (e :: es) t)
    (hst : starEach (e :: es) X.env = (false, eval e X.env) :: starEach es X.env := by rfl) (hpl : (backTo pos (starEach es X.env)).any (·.1) = false := by rfl)
    (ht : eval (.Call (.Attribute o m apos) (e :: es) [] pos) X.env = (do
      let ov ← eval o X.env
      standAt apos.atName
      let (f, first) ← holding [ov] (getMethod ov m pl)
      callWith pos f first (backTo pos (starEach (e :: es) X.env)) (backToKw pos (keywordEach [] X.env))) := by rfl) : PE X (.Call (.Attribute o m apos) (e :: es) [] pos) (tMeth (ga X.K "Machine") m sp [] E ta t) := by
  obtain ⟨fd, F, b⟩ := D.ex
  exact pe_meth he T.cl (T.meth i m hm) F hr b .nil hx ha hst hpl ht
theorem pe_me0 {pl : Sem Bool} {i : Nat} (he : PE X o ta) (T : Txt X.K X.mg) (hm : methL[i]? = some m) (D : MethOk X.prog X.w X.K X.mg X.base CX k m ps sp) (hr : Room k X.A) (hx : Passes CX X E)
    (ht : eval (.Call (.Attribute o m apos) [] [] pos) X.env = (do
      let ov ← eval o X.env
      standAt apos.atName
      let (f, first) ← holding [ov] (getMethod ov m pl)
      callWith pos f first (backTo pos (starEach [] X.env)) (backToKw pos (keywordEach [] X.env))) := by rfl) : PE X (.Call (.Attribute o m apos) [] [] pos) (tMeth (ga X.K "Machine") m sp [] E ta tNil) := by
  obtain ⟨fd, F, b⟩ := D.ex
  exact pe_meth0 he T.cl (T.meth i m hm) F hr b .nil hx ht
theorem pe_pr {i : Nat} (he : PE X o ta) (T : Txt X.K X.mg) (hm : propL[i]? = some m) (D : PropOk X.prog X.w X.K X.mg X.base CX0 k m ps sp) (hr : Room (k + 1) X.A) (hab : attributeBase o m X.env (eval o X.env) = eval o X.env) :
    PE X (.Attribute o m pos) (tProp (ga X.K "Machine") sp [] E0 ta) := by
  obtain ⟨fd, F, b⟩ := D.ex
  exact pe_prop he T.cl (T.prop i m hm) F hr b .nil pass0 hab
/-- Machine(..) -/
theorem pe_mach (D : MethOk X.prog X.w X.K X.mg X.base CX k "__init__" ps sp) (hr : Room (k + 1) X.A) (T : Txt X.K X.mg) (hg : Gl X "Machine") (hx : Passes CX X E) (ha : PA X (e :: es) t)
    (hdb : (("Machine" : Str) == ("__debug__" : Str)) = false := by decide) (he : starEach (e :: es) X.env = (false, eval e X.env) :: starEach es X.env := by rfl) (hpl : (backTo pos (starEach es X.env)).any (·.1) = false := by rfl) :
    PE X (.Call (.Name "Machine" p) (e :: es) [] pos) (tMake (ga X.K "Machine") sp [] E t) := by
  obtain ⟨fd, F, b⟩ := D.ex
  exact pe_make T.maker F hr hg (T.glo 34 "Machine" rfl) b .nil hx ha hdb he hpl
end
theorem units65 {k : Nat} {A : Around} (r : Room k A) : A.units + 65 < cLine := by
  have := r.un
  omega
/-! ### items -/
theorem g_at {l : List Int} {i : Int} (h0 : 0 ≤ i) (h1 : i < (l.length : Int)) : atI (l.map V.int) i = some (.int (g l i)) := by
  obtain ⟨n, rfl⟩ := Int.eq_ofNat_of_zero_le h0
  have hn : n < l.length := by omega
  refine atI_nat ?_
  rw [List.getElem?_map, List.getElem?_eq_getElem hn]
  show some (V.int l[n]) = some (V.int (l.getD (Int.toNat (n : Int)) 0))
  rw [Int.toNat_natCast, List.getD_eq_getElem?_getD, List.getElem?_eq_getElem hn]
  rfl
theorem ix_at {n : Nat} {i : Int} (h0 : 0 ≤ i) (h1 : i < (n : Int)) : ixN n i = some i.toNat := by
  unfold ixN
  rw [if_pos h0, if_pos h1]
theorem set_ints {l : List Int} {j : Nat} {y : Int} : (l.map V.int).set j (V.int y) = (l.set j y).map V.int := by rw [List.map_set]
theorem ite_dec {c A B : Prop} [Decidable c] (h1 : c → A) (h2 : ¬ c → B) : if decide c = true then A else B := by
  by_cases h : c
  · rw [decide_eq_true h, if_pos rfl]
    exact h1 h
  · rw [decide_eq_false h, if_neg Bool.false_ne_true]
    exact h2 h
theorem ite_decN {c A B : Prop} [Decidable c] (h1 : ¬ c → A) (h2 : c → B) : if (!decide c) = true then A else B := by
  by_cases h : c
  · rw [decide_eq_true h]
    exact iteF (h2 h)
  · rw [decide_eq_false h]
    exact iteT (h1 h)
theorem eq_int_dec {i j : Int} : decide (V.int i = V.int j) = decide (i = j) := by
  by_cases h : i = j
  · rw [h, decide_eq_true rfl, decide_eq_true rfl]
  · rw [decide_eq_false h, decide_eq_false fun z => h (V.int.inj z)]
theorem ite_int {i j : Int} {A B : Prop} (h1 : i = j → A) (h2 : i ≠ j → B) : if decide (V.int i = V.int j) = true then A else B := by
  rw [eq_int_dec]
  exact ite_dec h1 h2
theorem ite_intN {i j : Int} {A B : Prop} (h1 : i ≠ j → A) (h2 : i = j → B) : if (!decide (V.int i = V.int j)) = true then A else B := by
  rw [eq_int_dec]
  exact ite_decN h1 h2
end K25
set_option maxHeartbeats 2000000
/-! numbers, counts of steps, one instruction -/
namespace K25
open PySem PySem.Spec PyProof.Rows L2 He
variable {P : Program} {w : World} {K : PySem.W.Frag} {mg : Str → Option Value} {base : Heap}
/-! ### is_whole, is_number -/
def whole : V → Option Bool
  | .int _ => some true
  | .non => some false
  | .bl _ => some false
  | .str _ => some false
  | _ => none
def spWhole : Sp := fun vs H Q _ => ∃ v b, vs = [v] ∧ whole v = some b ∧ Q (.bl b) H
theorem sc_whole : FnScope ["value"] ["value"] (defScope (top 13)) := ⟨rfl, rfl, rfl, by decide +kernel, rfl, by decide +kernel, by decide +kernel⟩
theorem isi_pair {x : V} {t : String} {b1 b2 : Bool} {H : Hp} (ty : TyOf K H x (.type t)) (h1 : kitB t "int" = some b1) (h2 : kitB t "bool" = some b2) : TyX K H x (.type t) ∧ PySem.W.kitOne K (.type t) (.type "int") = some b1 ∧ PySem.W.kitOne K (.type t) (.type "bool") = some b2 :=
  ⟨.base ty, kit_ty h1, kit_ty h2⟩
theorem ok_is_whole (T : Txt K mg) : DefOk P w K mg base CX0 1 "is_whole" ["value"] spWhole := by
  refine def0 (i := 0) (j := 0) (n := 13) (N := ["value"]) T rfl rfl sc_whole (fun _ _ _ _ _ _ us hl => match us, hl with | [_], _ => rfl) (fun vs H Q E h => ?_) (fun cdv A outer s H vs Q E hr h => ?_)
  · obtain ⟨v, b, rfl, _⟩ := h
    rfl
  · obtain ⟨v, b, rfl, hw, q⟩ := h
    refine ⟨_, (pss_one (ps_ret (pe_and (pe_callB call_isi (by rfl) T.f_isinstance (by decide +kernel) (pa_cons (pv 0) (pa_cons (pe_bltn (v := .ty "int") (by rfl) T.f_int (by decide +kernel) rfl) pa_nil))) (pe_one (pe_not (pe_callB call_isi (by rfl) T.f_isinstance (by decide +kernel) (pa_cons (pv 0) (pa_cons (pe_bltn (v := .ty "bool") (by rfl) T.f_bool (by decide +kernel) rfl) pa_nil)))))))), ?_⟩
    cases v with
    | int i =>
      cases hw
      obtain ⟨k0, k1, k2⟩ := isi_pair (K := K) (b1 := true) (b2 := false) (TyOf.int (H := H) i) (by decide +kernel) (by decide +kernel)
      exact ⟨_, rfl, _, _, _, _, _, rfl, .ty "int", k0, k1, true, rfl, iteT ⟨_, rfl, _, _, _, _, _, rfl, .ty "bool", k0, k2, _, rfl, q⟩⟩
    | non =>
      cases hw
      obtain ⟨k0, k1, k2⟩ := isi_pair (K := K) (b1 := false) (b2 := false) (TyOf.non (H := H)) (by decide +kernel) (by decide +kernel)
      exact ⟨_, rfl, _, _, _, _, _, rfl, .ty "int", k0, k1, false, rfl, iteF q⟩
    | bl y =>
      cases hw
      obtain ⟨k0, k1, k2⟩ := isi_pair (K := K) (b1 := true) (b2 := true) (TyOf.bl (H := H) y) (by decide +kernel) (by decide +kernel)
      exact ⟨_, rfl, _, _, _, _, _, rfl, .ty "int", k0, k1, true, rfl, iteT ⟨_, rfl, _, _, _, _, _, rfl, .ty "bool", k0, k2, _, rfl, q⟩⟩
    | str y =>
      cases hw
      obtain ⟨k0, k1, k2⟩ := isi_pair (K := K) (b1 := false) (b2 := false) (TyOf.str (H := H) y) (by decide +kernel) (by decide +kernel)
      exact ⟨_, rfl, _, _, _, _, _, rfl, .ty "int", k0, k1, false, rfl, iteF q⟩
    | _ => cases hw
instance (i : Int) : Decidable (Num i) := inferInstanceAs (Decidable (0 ≤ i ∧ i ≤ 9999))
def spNumber : Sp := fun vs H Q _ => ∃ i : Int, vs = [.int i] ∧ Q (.bl (decide (Num i))) H
theorem sc_number : FnScope ["value"] ["value"] (defScope (top 14)) := ⟨rfl, rfl, rfl, by decide +kernel, rfl, by decide +kernel, by decide +kernel⟩
theorem ok_is_number (T : Txt K mg) : DefOk P w K mg base CX0 2 "is_number" ["value"] spNumber := by
  have D_is_whole := ok_is_whole (P := P) (w := w) (base := base) T
  refine def0 (i := 1) (j := 1) (n := 14) (N := ["value"]) T rfl rfl sc_number (fun _ _ _ _ _ _ us hl => match us, hl with | [_], _ => rfl) (fun vs H Q E h => ?_) (fun cdv A outer s H vs Q E hr h => ?_)
  · obtain ⟨v, rfl, _⟩ := h
    rfl
  · obtain ⟨i, rfl, q⟩ := h
    refine ⟨_, (pss_one (ps_ret (pe_and (pe_def D_is_whole hr rfl (pa_cons (pv 0) pa_nil)) (pe_one (pe_chain op_le op_le pe_int (pv 0) (pe_const rfl T.MOST_NUMBER)))))), ?_⟩
    refine ⟨_, rfl, _, true, rfl, rfl, true, rfl, iteT ⟨_, rfl, _, _, rfl, rfl, _, rfl, ?_⟩⟩
    refine ite_dec (fun h0 => ⟨_, _, rfl, rfl, ?_⟩) fun h0 => ?_
    · have e : decide (Num i) = decide (i ≤ 9999) := by
        by_cases h1 : i ≤ 9999
        · rw [decide_eq_true h1, decide_eq_true (show Num i from ⟨h0, h1⟩)]
        · rw [decide_eq_false h1, decide_eq_false fun z => h1 z.2]
      rw [e] at q
      exact q
    · rw [decide_eq_false (fun z : Num i => h0 z.1)] at q
      exact q
/-! ### need_number, need_room_number: where nothing is wrong -/
def spNeedNumber : Sp := fun vs H Q _ => ∃ i : Int, vs = [.int i] ∧ Num i ∧ Q .non H
theorem sc_neednum : FnScope ["number"] ["number"] (defScope (top 23)) := ⟨rfl, rfl, rfl, by decide +kernel, rfl, by decide +kernel, by decide +kernel⟩
theorem ok_need_number (T : Txt K mg) : DefOk P w K mg base CX0 3 "need_number" ["number"] spNeedNumber := by
  have D_is_number := ok_is_number (P := P) (w := w) (base := base) T
  refine def0 (i := 8) (j := 8) (n := 23) (N := ["number"]) T rfl rfl sc_neednum (fun _ _ _ _ _ _ us hl => match us, hl with | [_], _ => rfl) (fun vs H Q E h => ?_) (fun cdv A outer s H vs Q E hr h => ?_)
  · obtain ⟨v, rfl, _⟩ := h
    rfl
  · obtain ⟨i, rfl, hi, q⟩ := h
    refine ⟨_, (pss_one (ps_if (pt_not (pt_val (pe_def D_is_number hr rfl (pa_cons (pv 0) pa_nil)))) (pss_one ps_never) pss_nil)), ?_⟩
    exact ⟨_, rfl, _, rfl, _, rfl, ite_decN (fun z => absurd hi z) fun _ => q⟩
def spNeedRoom : Sp := fun vs H Q _ => ∃ i n : Int, vs = [.int i, .int n] ∧ 0 ≤ i ∧ i < n ∧ Q .non H
theorem sc_needroom : FnScope ["room", "many"] ["room", "many"] (defScope (top 24)) := ⟨rfl, rfl, rfl, by decide +kernel, rfl, by decide +kernel, by decide +kernel⟩
theorem ok_need_room (T : Txt K mg) : DefOk P w K mg base CX0 2 "need_room_number" ["room", "many"] spNeedRoom := by
  have D_is_whole := ok_is_whole (P := P) (w := w) (base := base) T
  refine def0 (i := 9) (j := 9) (n := 24) (N := ["room", "many"]) T rfl rfl sc_needroom (fun _ _ _ _ _ _ us hl => match us, hl with | [_, _], _ => rfl) (fun vs H Q E h => ?_) (fun cdv A outer s H vs Q E hr h => ?_)
  · obtain ⟨v, n, rfl, _⟩ := h
    rfl
  · obtain ⟨i, n, rfl, h0, h1, q⟩ := h
    refine ⟨_, (pss_one (ps_if (PW.pt (pw_or (pt_not (pt_val (pe_def D_is_whole hr rfl (pa_cons (pv 0) pa_nil)))) (pw_or1 (pt_not (pt_chain op_le op_lt pe_int (pv 0) (pv 1)))))) (pss_one ps_never) pss_nil)), ?_⟩
    refine ⟨_, rfl, _, true, rfl, rfl, true, rfl, iteF ⟨_, rfl, _, _, rfl, rfl, _, rfl, ite_dec (fun _ => ⟨_, rfl, _, _, rfl, rfl, _, rfl, ite_decN (fun z => absurd h1 z) fun _ => q⟩) fun z => absurd h0 z⟩⟩
/-! ### need_step_count -/
def badV (v : V) : Prop := whole v = some false ∨ ∃ i : Int, v = .int i ∧ ¬ (0 ≤ i ∧ i ≤ 1000000)
def spSteps (K : PySem.W.Frag) : Sp := fun vs H Q E => ∃ v, vs = [v] ∧ ((∃ i : Int, v = .int i ∧ 0 ≤ i ∧ i ≤ 1000000 ∧ Q .non H) ∨ (badV v ∧ E (.ref (ga K "BadSteps")) none H))
theorem sc_steps : FnScope ["steps"] ["steps"] (defScope (top 29)) := ⟨rfl, rfl, rfl, by decide +kernel, rfl, by decide +kernel, by decide +kernel⟩
theorem ok_steps (T : Txt K mg) : DefOk P w K mg base (L2.CX P w) 2 "need_step_count" ["steps"] (spSteps K) := by
  have D_is_whole := ok_is_whole (P := P) (w := w) (base := base) T
  obtain ⟨x1, x2, x3, x4⟩ := T.exc
  refine defX (i := 10) (j := 10) (n := 29) (N := ["steps"]) T rfl rfl sc_steps (fun _ _ _ _ _ _ us hl => match us, hl with | [_], _ => rfl) (fun vs H Q E h => ?_) (fun cdv A outer s H vs Q E hr h => ?_)
  · obtain ⟨v, rfl, _⟩ := h
    rfl
  · obtain ⟨v, rfl, h⟩ := h
    refine ⟨_, (pss_one (ps_if (PW.pt (pw_or (pt_not (pt_val (pe_def D_is_whole hr rfl (pa_cons (pv 0) pa_nil)))) (pw_or1 (pt_not (pt_chain op_le op_le pe_int (pv 0) (pe_const rfl T.MOST_STEPS))))))
      (pss_one (ps_raise rfl (W := fun cls d _ H => E cls d H) (takes_of rfl rfl rfl rfl) (pmk_own PySem.F.excBase_ValueError x1 (T.glo 32 "BadSteps" rfl) x2 (raises_own x3 x4) rfl))) pss_nil)), ?_⟩
    rcases h with ⟨i, rfl, h0, h1, q⟩ | ⟨hb, e⟩
    · exact ⟨_, rfl, _, true, rfl, rfl, true, rfl, iteF ⟨_, rfl, _, _, rfl, rfl, _, rfl, ite_dec (fun _ => ⟨_, _, rfl, rfl, _, rfl, ite_decN (fun z => absurd h1 z) fun _ => q⟩) fun z => absurd h0 z⟩⟩
    · rcases hb with hb | ⟨i, rfl, hb⟩
      · exact ⟨_, rfl, _, false, rfl, hb, false, rfl, iteT e⟩
      · refine ⟨_, rfl, _, true, rfl, rfl, true, rfl, iteF ⟨_, rfl, _, _, rfl, rfl, _, rfl, ite_dec (fun h0 => ⟨_, _, rfl, rfl, _, rfl, ite_decN (fun _ => e) fun h1 => absurd ⟨h0, h1⟩ hb⟩) fun _ => ⟨_, rfl, iteT e⟩⟩⟩
end K25
set_option maxHeartbeats 2000000
/-! calls of one argument, short answers -/
namespace K25
open PySem PySem.Spec PyProof.Rows L2 He
variable {K : PySem.W.Frag}
def tCB1 (r : List V → Hp → VK → Prop) (t : TE) : TE := fun σ H Q => t σ H fun x H1 => r [x] H1 Q
section
variable {X : Cx} {x : Str} {p pos : Pos} {e : Expr} {t : TE} {id T : String} {r : List V → Hp → VK → Prop}
theorem pe_cB (hc : CallR X (.builtin id) r) (hg : Gl X x) (hm : X.mg x = none) (hv : bootBuiltins x = some (.builtin id)) (he : PE X e t) (hn : x ≠ "__name__" := by decide) (hd : (x == ("__debug__" : Str)) = false := by decide)
    (hs : starEach [e] X.env = (false, eval e X.env) :: starEach [] X.env := by rfl) (hpl : ((backTo pos (starEach [] X.env)).any fun x => x.fst) = false := by rfl) : PE X (.Call (.Name x p) [e] [] pos) (tCB1 r t) :=
  pe_callB hc hg hm hv (pa_cons he pa_nil hs) hn hd hs hpl
theorem pe_cT (hc : CallR X (.type T) r) (hg : Gl X x) (hm : X.mg x = none) (hv : bootBuiltins x = some (.type T)) (he : PE X e t) (hn : x ≠ "__name__" := by decide) (hd : (x == ("__debug__" : Str)) = false := by decide)
    (hs : starEach [e] X.env = (false, eval e X.env) :: starEach [] X.env := by rfl) (hpl : ((backTo pos (starEach [] X.env)).any fun x => x.fst) = false := by rfl) : PE X (.Call (.Name x p) [e] [] pos) (tCB1 r t) :=
  pe_callTy hc hg hm hv (pa_cons he pa_nil hs) hn hd hs hpl
end
def tIsi (K : PySem.W.Frag) (T : String) (t : TE) : TE := fun σ H Q => t σ H fun x H1 => rIsi K [x, .ty T] H1 Q
theorem pe_isi1 {X : Cx} {x y : Str} {p p2 pos : Pos} {e : Expr} {t : TE} {T : String} (hx : x = "isinstance") (hg : Gl X x) (hm : X.mg "isinstance" = none) (he : PE X e t) (hg2 : Gl X y) (hm2 : X.mg y = none) (hv2 : bootBuiltins y = some (.type T)) (hn2 : y ≠ "__name__" := by decide) (hd2 : (y == ("__debug__" : Str)) = false := by decide)
    (hs : starEach [e, .Name y p2] X.env = (false, eval e X.env) :: starEach [.Name y p2] X.env := by rfl) (hpl : ((backTo pos (starEach [.Name y p2] X.env)).any fun x => x.fst) = false := by rfl) : PE X (.Call (.Name x p) [e, .Name y p2] [] pos) (tIsi X.K T t) := by
  subst hx
  exact pe_callB call_isi hg hm (by decide +kernel) (pa_cons he (pa_cons (pe_bltn (v := .ty T) hg2 hm2 hv2 rfl hn2 hd2) pa_nil) hs) (by decide) (by decide) hs hpl
/-- a[i], i written -/
def tIx (r : R2) (ta : TE) (i : Int) : TE := fun σ H Q => ta σ H fun x H1 => r x (.int i) H1 Q
theorem pe_ixC {X : Cx} {a b : Expr} {ta : TE} {pos : Pos} {r : R2} {i : Int} (hr : IxR X r) (ha : PE X a ta) (hb : PE X b (tC (.int i))) (hp : PlainIx b) : PE X (.Subscript a b pos) (tIx r ta i) := pe_ix hr ha hb hp
abbrev IL (H : Hp) (a : Addr) (l : List Int) : Prop := H a = some (.lst (l.map V.int))
def rLen (K : PySem.W.Frag) : List V → Hp → VK → Prop := fun xs H Q => ∃ (p : Addr) (ys : List V), xs = [.ref p] ∧ (SqL K H p ys ∨ SqT K H p ys) ∧ Q (.int (ys.length : Int)) H
theorem call_len {X : Cx} : CallR X (.builtin "len") (rLen X.K) := call_len_seq
def rList (K : PySem.W.Frag) : List V → Hp → VK → Prop := fun xs H Q => ∃ (p : Addr) (ys : List V), xs = [.ref p] ∧ (SqL K H p ys ∨ SqT K H p ys) ∧ ∀ l : Addr, H l = none → Q (.ref l) (upd H l (.lst ys))
theorem call_list {X : Cx} : CallR X (.type "list") (rList X.K) := call_list_of
def rTupL (K : PySem.W.Frag) : List V → Hp → VK → Prop := fun xs H Q => ∃ (p : Addr) (ys : List V), xs = [.ref p] ∧ (SqL K H p ys ∧ (∀ l : Addr, H l = none → Q (.ref l) (upd H l (.tup ys))) ∨ SqT K H p ys ∧ Q (.ref p) H)
theorem call_tuple {X : Cx} : CallR X (.type "tuple") (rTupL X.K) := call_tuple_of
def rAbs : List V → Hp → VK → Prop := fun xs H Q => ∃ i : Int, xs = [.int i] ∧ Q (.int (if i < 0 then -i else i)) H
theorem call_absI {X : Cx} : CallR X (.builtin "abs") rAbs := call_abs
def rInt1 : List V → Hp → VK → Prop := fun xs H Q => (∃ i, xs = [V.int i] ∧ Q (V.int i) H) ∨ ∃ k, xs = [V.bl k] ∧ Q (V.int (if k = true then 1 else 0)) H
theorem call_int1I {X : Cx} : CallR X (.type "int") rInt1 := call_int1
section
variable {H : Hp} {p : Addr} {Q : VK}
theorem rd_ix {l : List Int} {i : Int} (h : IL H p l) (h0 : 0 ≤ i) (h1 : i < (l.length : Int)) (q : Q (.int (g l i)) H) : rIxL K (.ref p) (.int i) H Q :=
  ⟨_, _, _, _, rfl, rfl, SqL.of h, g_at h0 h1, q⟩
theorem rd_set {l : List Int} {i y : Int} {Q : Hp → Prop} (h : IL H p l) (h0 : 0 ≤ i) (h1 : i < (l.length : Int)) (q : Q (upd H p (.lst ((l.set i.toNat y).map V.int)))) : rSetL (.ref p) (.int i) (.int y) H Q := by
  refine ⟨_, _, _, _, rfl, rfl, h, ix_at h0 (by rw [List.length_map]; exact h1), ?_⟩
  rw [set_ints]
  exact q
theorem rd_len {l : List Int} (h : IL H p l) (q : Q (.int (l.length : Int)) H) : rLen K [.ref p] H Q := by
  refine ⟨_, _, rfl, .inl (SqL.of h), ?_⟩
  rw [List.length_map]
  exact q
theorem rd_lenL {l : List V} (h : H p = some (.lst l)) (q : Q (.int (l.length : Int)) H) : rLen K [.ref p] H Q := ⟨_, _, rfl, .inl (SqL.of h), q⟩
theorem rd_lenT {l : List V} (h : H p = some (.tup l)) (q : Q (.int (l.length : Int)) H) : rLen K [.ref p] H Q := ⟨_, _, rfl, .inr (SqT.of h), q⟩
theorem rd_listL {l : List V} (h : H p = some (.lst l)) (q : ∀ a : Addr, H a = none → Q (.ref a) (upd H a (.lst l))) : rList K [.ref p] H Q := ⟨_, _, rfl, .inl (SqL.of h), q⟩
theorem rd_listT {l : List V} (h : H p = some (.tup l)) (q : ∀ a : Addr, H a = none → Q (.ref a) (upd H a (.lst l))) : rList K [.ref p] H Q := ⟨_, _, rfl, .inr (SqT.of h), q⟩
theorem rd_tupL {l : List V} (h : H p = some (.lst l)) (q : ∀ a : Addr, H a = none → Q (.ref a) (upd H a (.tup l))) : rTupL K [.ref p] H Q := ⟨_, _, rfl, .inl ⟨SqL.of h, q⟩⟩
theorem rd_isi {x : V} {T : String} {b : Bool} {xt : Value} (k : TyX K H x xt) (h : PySem.W.kitOne K xt (.type T) = some b) (q : Q (.bl b) H) : rIsi K [x, .ty T] H Q := ⟨_, _, _, _, _, rfl, .ty T, k, h, q⟩
/-- an item of a tuple, by its data -/
theorem rd_ixT {xs : List V} {i : Int} {v : V} (h : H p = some (.tup xs)) (e : atI xs i = some v) (q : Q v H) : rIxT K (.ref p) (.int i) H Q := ⟨_, _, _, _, rfl, rfl, SqT.of h, e, q⟩
end
/-! ### tuples of data -/
theorem TD.pair {H : Hp} {v : V} {p : Int × Int} (h : TD H v (pairD p)) : ∃ b, v = .ref b ∧ H b = some (.tup [.int p.1, .int p.2]) := by
  obtain ⟨a, xs, e, h1, h2⟩ := h.inv
  cases h2 with
  | cons z1 t =>
    cases t with
    | cons z2 t =>
      cases t
      rw [z1.inv_int, z2.inv_int] at h1
      exact ⟨a, e, h1⟩
theorem TD.ofPair {H : Hp} {b : Addr} {p : Int × Int} (h : H b = some (.tup [.int p.1, .int p.2])) : TD H (.ref b) (pairD p) := .tup h (.cons (.int _) (.cons (.int _) .nil))
theorem TDs.atMap {α : Type} {f : α → PyData} {H : Hp} {l : List α} {xs : List V} (h : TDs H xs (l.map f)) {i : Nat} {x : V} (hx : xs[i]? = some x) : ∃ z, l[i]? = some z ∧ TD H x (f z) := by
  have hl : i < xs.length := (List.getElem?_eq_some_iff.mp hx).1
  have hl2 : i < l.length := by
    have := h.length
    rw [List.length_map] at this
    omega
  obtain ⟨v, e, q⟩ := h.get (i := i) (d := f l[i]) (by rw [List.getElem?_map, List.getElem?_eq_getElem hl2]; rfl)
  rw [hx] at e
  cases e
  exact ⟨_, List.getElem?_eq_getElem hl2, q⟩
theorem TDs.lenMap {α : Type} {f : α → PyData} {H : Hp} {l : List α} {xs : List V} (h : TDs H xs (l.map f)) : xs.length = l.length := by
  rw [h.length, List.length_map]
theorem p10 : (0 : Int) < 10 := by decide
theorem p10000 : (0 : Int) < 10000 := by decide
theorem m10 (i : Int) : 0 ≤ i % 10 ∧ i % 10 < 10 := ⟨Int.emod_nonneg _ (by decide), Int.emod_lt_of_pos _ (by decide)⟩
theorem two_same {H : Hp} {a b : Addr} {o u : HO} (h1 : H a = some o) (h2 : H b = some u) : upd (upd H a o) b u = H := by rw [upd_id h1, upd_id h2]
theorem upd_comm {H : Hp} {a b : Addr} {o u : HO} (n : a ≠ b) : upd (upd H a o) b u = upd (upd H b u) a o := by
  funext c
  by_cases h1 : c = a
  · rw [h1, upd_ne n, upd_same, upd_same]
  · by_cases h2 : c = b
    · rw [h2, upd_same, upd_ne (Ne.symm n), upd_same]
    · rw [upd_ne h2, upd_ne h1, upd_ne h1, upd_ne h2]
/-! with the written part named: for the inside of a comprehension -/
section
variable {X : Cx} {K : PySem.W.Frag}
theorem ixTK (h : X.K = K) : IxR X (rIxT K) := h ▸ ix_tup
theorem ixLK (h : X.K = K) : IxR X (rIxL K) := h ▸ ix_list
theorem cListK (h : X.K = K) : CallR X (.type "list") (rList K) := h ▸ call_list
theorem cTupK (h : X.K = K) : CallR X (.type "tuple") (rTupL K) := h ▸ call_tuple
theorem cLenK (h : X.K = K) : CallR X (.builtin "len") (rLen K) := h ▸ call_len
end
section
variable {X : Cx} {i j : Nat} {x y : Str} {px py pos : Pos} {k : Nat}
theorem pg_two {K : PySem.W.Frag} (hK : X.K = K) (hc : X.calm = true) (hN : X.N.Nodup) (hi : X.N[i]? = some x) (hj : X.N[j]? = some y) (hl : L2.Loc X.env.scope x) (hl2 : L2.Loc X.env.scope y) (hf : X.fn x = true ∨ X.env.scope.names.lookup x = some .local) (hf2 : X.fn y = true ∨ X.env.scope.names.lookup y = some .local) :
    PG X (.Tuple [.Name x px, .Name y py] k pos) (gTup K 2 (gCons (gName i) (gCons (gName j) gNil))) := by
  subst hK
  exact pg_tup hc (pgs_cons (pg_name hN hi hl hf) (pgs_cons (pg_name hN hj hl2 hf2) pgs_nil))
end
end K25
set_option maxHeartbeats 2000000
/-! one instruction: sum_step, cell_step, inner_step -/
namespace K25
open PySem PySem.Spec PyProof.Rows L2 He
variable {P : Program} {w : World} {K : PySem.W.Frag} {mg : Str → Option Value} {base : Heap}
def spSum : Sp := fun vs H Q _ => ∃ (code : Int) (rg : Addr) (regs : List Int), vs = [.int code, .ref rg] ∧ IL H rg regs ∧ regs.length = 10 ∧ (∀ z ∈ regs, Num z) ∧ Q .non (upd H rg (.lst ((sumM code regs).map V.int)))
theorem sc_sum : FnScope ["code", "registers", "first", "one", "other", "found"] ["code", "registers"] (defScope (top 30)) := ⟨rfl, rfl, rfl, by decide +kernel, rfl, by decide +kernel, by decide +kernel⟩
theorem ok_sum (T : Txt K mg) : DefOk P w K mg base CX0 1 "sum_step" ["code", "registers"] spSum := by
  refine def0 (i := 11) (j := 11) (n := 30) (N := ["code", "registers", "first", "one", "other", "found"]) T rfl rfl sc_sum (fun _ _ _ _ _ _ us hl => match us, hl with | [_, _], _ => rfl) (fun vs H Q E h => ?_) (fun cdv A outer s H vs Q E hr h => ?_)
  · obtain ⟨c, a, l, rfl, _⟩ := h
    rfl
  · obtain ⟨code, rg, regs, rfl, hg, hl, hn, q⟩ := h
    have nd := sc_sum.nd
    refine ⟨_, (pss_cons (ps_par3 (i := 2) (j := 3) (l := 4) (by rfl) nd rfl rfl rfl (by decide) (by decide) (by decide) rfl rfl rfl (pa_cons (pe_op op_fdiv (pv 0) pe_int) (pa_cons (pe_ix ix_list (pv 1) (pe_op op_mod (pe_op op_fdiv (pv 0) pe_int) pe_int) (fun _ _ => rfl)) (pa_cons (pe_ix ix_list (pv 1) (pe_op op_mod (pv 0) pe_int) (fun _ _ => rfl)) pa_nil))) (by rfl))
    (pss_cons (ps_if (pt_cmpR op_eq (pv 2) pe_int (nomark _)) (pss_one (ps_set (i := 5) nd rfl (Or.inl rfl) (pe_op op_mod (pe_op op_add (pv 3) (pv 4)) pe_int))) (pss_one (ps_if (pt_cmpR op_eq (pv 2) pe_int (nomark _)) (pss_one (ps_set (i := 5) nd rfl (Or.inl rfl) (pe_op op_mod (pe_op op_sub (pv 3) (pv 4)) pe_int))) (pss_one (ps_if (pt_cmpR op_eq (pv 2) pe_int (nomark _)) (pss_one (ps_set (i := 5) nd rfl (Or.inl rfl) (pe_op op_mod (pe_op op_mul (pv 3) (pv 4)) pe_int))) (pss_one (ps_if (pt_cmpR op_eq (pv 2) pe_int (nomark _)) (pss_one (ps_set (i := 5) nd rfl (Or.inl rfl) (pe_ifExp (pt_cmpR op_lt (pv 3) (pv 4) (nomark _)) pe_int pe_int))) (pss_one (ps_set (i := 5) nd rfl (Or.inl rfl) (pe_ifExp (pt_cmpR op_ne (pv 4) pe_int (nomark _)) (pe_op op_mod (pv 3) (pv 4)) pe_int))))))))))
    (pss_one (ps_asg (pv 5) (pg_sub (pv 1) (pe_op op_mod (pe_op op_fdiv (pv 0) pe_int) pe_int) set_list))))), ?_⟩
    have lt : ∀ {i : Int}, i % 10 < (regs.length : Int) := fun {i} => by
      rw [hl]
      exact (m10 i).2
    refine ⟨_, rfl, _, _, rfl, rfl, ⟨by decide, by decide⟩, _, rfl, _, rfl, _, _, rfl, rfl, ⟨by decide, by decide⟩, _, _, rfl, rfl, p10, rd_ix hg (m10 _).1 lt ⟨_, rfl, _, rfl, _, _, rfl, rfl, p10, rd_ix hg (m10 _).1 lt ⟨_, _, _, rfl, ?_⟩⟩⟩
    have fin : ∀ {σ : L2.St} {o1 o2 o3 : Option V}, σ = [some (.int code), some (.ref rg), o1, o2, o3, some (.int (sumFound code regs))] → tAsg (tVar 5) (gSub (tVar 1) (tOp (rI (fun x j => 0 < j) fun i j => V.int (i % j)) (tOp (rI CDiv fun i j => V.int (i / j)) (tVar 0) (tC (.int 100))) (tC (.int 10))) rSetL) { nx := fun _ H' => Q .non H', rt := Q } σ H := by
      rintro σ o1 o2 o3 rfl
      exact ⟨_, rfl, _, rfl, _, rfl, _, _, rfl, rfl, ⟨by decide, by decide⟩, _, _, rfl, rfl, p10, rd_set hg (m10 _).1 lt q⟩
    have ng := fun i => num_g hn i
    unfold sumFound at fin
    refine ⟨_, rfl, rfl, _, rfl, ite_int (fun h4 => ?_) fun h4 => ⟨_, rfl, rfl, _, rfl, ite_int (fun h5 => ?_) fun h5 => ⟨_, rfl, rfl, _, rfl, ite_int (fun h6 => ?_) fun h6 => ⟨_, rfl, rfl, _, rfl, ite_int (fun h7 => ?_) fun h7 => ?_⟩⟩⟩⟩
    · rw [if_pos h4] at fin
      exact ⟨_, rfl, _, rfl, _, _, rfl, rfl, _, _, rfl, rfl, p10000, fin rfl⟩
    · rw [if_neg h4, if_pos h5] at fin
      exact ⟨_, rfl, _, rfl, _, _, rfl, rfl, _, _, rfl, rfl, p10000, fin rfl⟩
    · rw [if_neg h4, if_neg h5, if_pos h6] at fin
      refine ⟨_, rfl, _, rfl, _, _, rfl, rfl, .inl ⟨?_, ?_⟩, _, _, rfl, rfl, p10000, fin rfl⟩
      · have := (ng (code / 10 % 10)).1
        omega
      · have := (ng (code / 10 % 10)).2
        omega
    · rw [if_neg h4, if_neg h5, if_neg h6, if_pos h7] at fin
      refine ⟨_, rfl, _, rfl, _, _, rfl, rfl, _, rfl, ite_dec (fun h => ?_) fun h => ?_⟩
      · rw [if_pos h] at fin
        exact fin rfl
      · rw [if_neg h] at fin
        exact fin rfl
    · rw [if_neg h4, if_neg h5, if_neg h6, if_neg h7] at fin
      refine ⟨_, rfl, rfl, _, rfl, ite_intN (fun h => ?_) fun h => ?_⟩
      · rw [if_pos h] at fin
        have := (ng (code % 10)).1
        exact ⟨_, rfl, _, rfl, _, _, rfl, rfl, by omega, fin rfl⟩
      · rw [if_neg (fun z => z h)] at fin
        exact fin rfl
def spCell : Sp := fun vs H Q _ => ∃ (code : Int) (ca rg : Addr) (at_ : Int) (cells regs : List Int), vs = [.int code, .ref ca, .ref rg, .int at_] ∧ ca ≠ rg ∧ IL H ca cells ∧ IL H rg regs ∧ regs.length = 10 ∧ (∀ z ∈ regs, Num z) ∧ 0 ≤ at_ ∧
  Q (.int (cellM code cells regs at_).1) (upd (upd H ca (.lst ((cellM code cells regs at_).2.1.map V.int))) rg (.lst ((cellM code cells regs at_).2.2.map V.int)))
theorem sc_cell : FnScope ["code", "cells", "registers", "at", "spot", "place"] ["code", "cells", "registers", "at"] (defScope (top 31)) := ⟨rfl, rfl, rfl, by decide +kernel, rfl, by decide +kernel, by decide +kernel⟩
theorem ok_cell (T : Txt K mg) : DefOk P w K mg base CX0 1 "cell_step" ["code", "cells", "registers", "at"] spCell := by
  refine def0 (i := 12) (j := 12) (n := 31) (N := ["code", "cells", "registers", "at", "spot", "place"]) T rfl rfl sc_cell (fun _ _ _ _ _ _ us hl => match us, hl with | [_, _, _, _], _ => rfl) (fun vs H Q E h => ?_) (fun cdv A outer s H vs Q E hr h => ?_)
  · obtain ⟨_, _, _, _, _, _, rfl, _⟩ := h
    rfl
  · obtain ⟨code, ca, rg, at_, cells, regs, rfl, ne, hc, hg, hl, hn, h0, q⟩ := h
    have nd := sc_cell.nd
    refine ⟨_, (pss_cons (ps_set (i := 4) nd rfl (Or.inl rfl) (pe_op op_mod (pe_op op_fdiv (pv 0) pe_int) pe_int))
    (pss_cons (ps_if (pt_cmpR op_lt (pv 0) pe_int (nomark _)) (pss_cons (ps_if (pt_cmpR op_ge (pe_op op_add (pv 3) pe_int) (pe_cB call_len (by rfl) T.f_len PySem.boot_len (pv 1)) (nomark _)) (pss_one (ps_ret (pe_const rfl T.ENDS))) pss_nil)
      (pss_cons (ps_asg (pe_ix ix_list (pv 1) (pe_op op_add (pv 3) pe_int) (fun _ _ => rfl)) (pg_sub (pv 2) (pv 4) set_list))
      (pss_one (ps_ret (pe_op op_add (pv 3) pe_int))))) pss_nil)
    (pss_cons (ps_set (i := 5) nd rfl (Or.inl rfl) (pe_ix ix_list (pv 2) (pe_op op_mod (pe_op op_fdiv (pv 0) pe_int) pe_int) (fun _ _ => rfl)))
    (pss_cons (ps_if (pt_cmpR op_ge (pv 5) (pe_cB call_len (by rfl) T.f_len PySem.boot_len (pv 1)) (nomark _)) (pss_one (ps_ret (pe_const rfl T.ENDS))) pss_nil)
    (pss_cons (ps_if (pt_cmpR op_lt (pe_op op_mod (pv 0) pe_int) pe_int (nomark _)) (pss_one (ps_asg (pe_ix ix_list (pv 1) (pv 5) (fun _ _ => rfl)) (pg_sub (pv 2) (pv 4) set_list))) (pss_one (ps_asg (pe_ix ix_list (pv 2) (pv 4) (fun _ _ => rfl)) (pg_sub (pv 1) (pv 5) set_list))))
    (pss_one (ps_ret (pe_op op_add (pv 3) pe_int)))))))), ?_⟩
    have lt : ∀ {i : Int}, i % 10 < (regs.length : Int) := fun {i} => by
      rw [hl]
      exact (m10 i).2
    unfold cellM at q
    refine ⟨_, rfl, _, _, rfl, rfl, ⟨by decide, by decide⟩, _, _, rfl, rfl, p10, ?_⟩
    refine ⟨_, rfl, _, _, rfl, rfl, _, rfl, ite_dec (fun c1 => ?_) fun c1 => ?_⟩
    · rw [if_pos c1] at q
      refine ⟨_, rfl, _, _, rfl, rfl, _, rfl, rd_len hc ⟨_, _, rfl, rfl, _, rfl, ite_dec (fun c2 => ?_) fun c2 => ?_⟩⟩
      · rw [if_pos c2, two_same hc hg] at q
        exact q
      · rw [if_neg c2, upd_id hc] at q
        refine ⟨_, rfl, _, rfl, _, _, rfl, rfl, rd_ix hc (by omega) (by omega) ⟨_, rfl, _, rfl, rd_set hg (m10 _).1 lt ⟨_, rfl, _, _, rfl, rfl, q⟩⟩⟩
    · rw [if_neg c1] at q
      refine ⟨_, rfl, _, rfl, _, _, rfl, rfl, ⟨by decide, by decide⟩, _, _, rfl, rfl, p10, rd_ix hg (m10 _).1 lt ?_⟩
      refine ⟨_, rfl, _, rfl, rd_len hc ⟨_, _, rfl, rfl, _, rfl, ite_dec (fun c2 => ?_) fun c2 => ?_⟩⟩
      · rw [if_pos c2, two_same hc hg] at q
        exact q
      · rw [if_neg c2] at q
        have np := (num_g hn (code / 10 % 10)).1
        refine ⟨_, rfl, _, _, rfl, rfl, p10, _, _, rfl, rfl, _, rfl, ite_dec (fun c3 => ?_) fun c3 => ?_⟩
        · rw [if_pos c3, upd_id hc] at q
          exact ⟨_, rfl, _, rfl, rd_ix hc np (by omega) ⟨_, rfl, _, rfl, rd_set hg (m10 _).1 lt ⟨_, rfl, _, _, rfl, rfl, q⟩⟩⟩
        · rw [if_neg c3, upd_comm ne, upd_id hg] at q
          exact ⟨_, rfl, _, rfl, rd_ix hg (m10 _).1 lt ⟨_, rfl, _, rfl, rd_set hc np (by omega) ⟨_, rfl, _, _, rfl, rfl, q⟩⟩⟩
def spInner : Sp := fun vs H Q _ => ∃ (ca rg : Addr) (at_ : Int) (cells regs : List Int), vs = [.ref ca, .ref rg, .int at_] ∧ ca ≠ rg ∧ IL H ca cells ∧ IL H rg regs ∧ regs.length = 10 ∧ (∀ z ∈ regs, Num z) ∧ 0 ≤ at_ ∧
  Q (.int (innerM cells regs at_).1) (upd (upd H ca (.lst ((innerM cells regs at_).2.1.map V.int))) rg (.lst ((innerM cells regs at_).2.2.map V.int)))
theorem sc_inner : FnScope ["cells", "registers", "at", "code"] ["cells", "registers", "at"] (defScope (top 32)) := ⟨rfl, rfl, rfl, by decide +kernel, rfl, by decide +kernel, by decide +kernel⟩
theorem ok_inner (T : Txt K mg) : DefOk P w K mg base CX0 2 "inner_step" ["cells", "registers", "at"] spInner := by
  have D_sum_step := ok_sum (P := P) (w := w) (base := base) T
  have D_cell_step := ok_cell (P := P) (w := w) (base := base) T
  refine def0 (i := 13) (j := 13) (n := 32) (N := ["cells", "registers", "at", "code"]) T rfl rfl sc_inner (fun _ _ _ _ _ _ us hl => match us, hl with | [_, _, _], _ => rfl) (fun vs H Q E h => ?_) (fun cdv A outer s H vs Q E hr h => ?_)
  · obtain ⟨_, _, _, _, _, rfl, _⟩ := h
    rfl
  · obtain ⟨ca, rg, at_, cells, regs, rfl, ne, hc, hg, hl, hn, h0, q⟩ := h
    have nd := sc_inner.nd
    refine ⟨_, (pss_cons (ps_if (pt_cmpR op_ge (pv 2) (pe_cB call_len (by rfl) T.f_len PySem.boot_len (pv 0)) (nomark _)) (pss_one (ps_ret (pe_const rfl T.ENDS))) pss_nil)
    (pss_cons (ps_set (i := 3) nd rfl (Or.inl rfl) (pe_ix ix_list (pv 0) (pv 2) (fun _ _ => rfl)))
    (pss_cons (ps_if (pt_cmpR op_ge (pv 3) pe_int (nomark _)) (pss_one (ps_ret (pe_const rfl T.CROSSES))) pss_nil)
    (pss_cons (ps_if (pt_cmpR op_ge (pv 3) pe_int (nomark _)) (pss_one (ps_ret (pe_ifExp (pt_cmpR op_ne (pe_ix ix_list (pv 1) (pe_op op_mod (pe_op op_fdiv (pv 3) pe_int) pe_int) (fun _ _ => rfl)) pe_int (nomark _)) (pe_ix ix_list (pv 1) (pe_op op_mod (pe_op op_fdiv (pv 3) pe_int) pe_int) (fun _ _ => rfl)) (pe_op op_add (pv 2) pe_int)))) pss_nil)
    (pss_cons (ps_if (pt_cmpR op_ge (pv 3) pe_int (nomark _)) (pss_cons (ps_expr (pe_def D_sum_step hr rfl (pa_cons (pv 3) (pa_cons (pv 1) pa_nil))))
      (pss_one (ps_ret (pe_op op_add (pv 2) pe_int)))) pss_nil)
    (pss_one (ps_ret (pe_ifExp (pt_cmpR op_ge (pv 3) pe_int (nomark _)) (pe_def D_cell_step hr rfl (pa_cons (pv 3) (pa_cons (pv 0) (pa_cons (pv 1) (pa_cons (pv 2) pa_nil))))) (pe_const rfl T.ENDS))))))))), ?_⟩
    have lt : ∀ {i : Int}, i % 10 < (regs.length : Int) := fun {i} => by
      rw [hl]
      exact (m10 i).2
    unfold innerM at q
    refine ⟨_, rfl, _, rfl, rd_len hc ⟨_, _, rfl, rfl, _, rfl, ite_dec (fun c1 => ?_) fun c1 => ?_⟩⟩
    · rw [if_pos c1, two_same hc hg] at q
      exact q
    rw [if_neg c1] at q
    refine ⟨_, rfl, _, rfl, rd_ix hc h0 (by omega) ⟨_, rfl, _, _, rfl, rfl, _, rfl, ite_dec (fun c2 => ?_) fun c2 => ?_⟩⟩
    · rw [if_pos c2, two_same hc hg] at q
      exact q
    rw [if_neg c2] at q
    refine ⟨_, rfl, _, _, rfl, rfl, _, rfl, ite_dec (fun c3 => ?_) fun c3 => ?_⟩
    · rw [if_pos c3, two_same hc hg] at q
      refine ⟨_, rfl, _, rfl, _, _, rfl, rfl, ⟨by decide, by decide⟩, _, _, rfl, rfl, p10, rd_ix hg (m10 _).1 lt ⟨rfl, _, rfl, ite_intN (fun c4 => ?_) fun c4 => ?_⟩⟩
      · rw [if_pos c4] at q
        exact ⟨_, rfl, _, rfl, _, _, rfl, rfl, ⟨by decide, by decide⟩, _, _, rfl, rfl, p10, rd_ix hg (m10 _).1 lt q⟩
      · rw [if_neg (fun z => z c4)] at q
        exact ⟨_, rfl, _, _, rfl, rfl, q⟩
    rw [if_neg c3] at q
    refine ⟨_, rfl, _, _, rfl, rfl, _, rfl, ite_dec (fun c4 => ?_) fun c4 => ?_⟩
    · rw [if_pos c4, upd_id hc] at q
      exact ⟨_, rfl, _, rfl, _, _, _, rfl, hg, hl, hn, _, rfl, _, _, rfl, rfl, q⟩
    rw [if_neg c4] at q
    refine ⟨_, rfl, _, _, rfl, rfl, _, rfl, ite_dec (fun c5 => ?_) fun c5 => ?_⟩
    · rw [if_pos c5] at q
      exact ⟨_, rfl, _, rfl, _, rfl, _, rfl, _, _, _, _, _, _, rfl, ne, hc, hg, hl, hn, h0, q⟩
    · rw [if_neg c5, two_same hc hg] at q
      exact q
end K25
set_option maxHeartbeats 2000000
/-! the checks, on data that is right -/
namespace K25
open PySem PySem.Spec PyProof.Rows L2 He
variable {P : Program} {w : World} {K : PySem.W.Frag} {mg : Str → Option Value} {base : Heap}
theorem u64 {k : Nat} {A : Around} (r : Room k A) : A.units + 64 < cLine := by
  have := r.un
  omega
theorem ty_tup {H : Hp} {a : Addr} {xs : List V} (h : H a = some (.tup xs)) : TyX K H (.ref a) (.type "tuple") := .base (.tup h)
theorem k_tup : PySem.W.kitOne K (.type "tuple") (.type "tuple") = some true := kit_ty (by decide +kernel)
def keyOf (p : Int × Int) : List Key := [.inl p.1, .inl p.2]
theorem keyOf_inj {p q : Int × Int} (h : keyOf p = keyOf q) : p = q := by
  obtain ⟨h1, h2⟩ := List.cons.inj h
  exact Prod.ext (Sum.inl.inj h1) (Sum.inl.inj (List.cons.inj h2).1)
theorem unlike_at {l : List (Int × Int)} (h : l.Nodup) {i j : Nat} {p q : Int × Int} (hi : l[i]? = some p) (hj : l[j]? = some q) (lt : i < j) : p ≠ q := by
  obtain ⟨hi1, hi2⟩ := List.getElem?_eq_some_iff.mp hi
  obtain ⟨hj1, hj2⟩ := List.getElem?_eq_some_iff.mp hj
  have := List.pairwise_iff_getElem.mp h i j hi1 hj1 lt
  rw [hi2, hj2] at this
  exact this
def spUnlike : Sp := fun vs H Q _ => ∃ (v : V) (ws : List (Int × Int)), vs = [v] ∧ TD H v (.tuple (ws.map pairD)) ∧ ws.Nodup ∧ ws.length ≤ 8 ∧ ∀ H', Same H H' → Q (.bl true) H'
theorem sc_unlike : FnScope ["values", "seen", "value"] ["values"] (defScope (top 15)) := ⟨rfl, rfl, rfl, by decide +kernel, rfl, by decide +kernel, by decide +kernel⟩
theorem sm_tr {H H1 H2 : Hp} (h : Same H H1) (k : Same H1 H2) : Same H H2 := fun b o e => k b o (h b o e)
theorem ok_unlike (T : Txt K mg) : DefOk P w K mg base CX0 1 "are_unlike" ["values"] spUnlike := by
  refine def0 (i := 2) (j := 2) (n := 15) (N := ["values", "seen", "value"]) T rfl rfl sc_unlike (fun _ _ _ _ _ _ us hl => match us, hl with | [_], _ => rfl) (fun vs H Q E h => ?_) (fun cdv A outer s H vs Q E hr h => ?_)
  · obtain ⟨_, _, rfl, _⟩ := h
    rfl
  · obtain ⟨v, ws, rfl, hd, hn, hl, q⟩ := h
    obtain ⟨a, xs, rfl, ha, hx⟩ := hd.inv
    have nd := sc_unlike.nd
    have hu := hu_of hr
    have lx := hx.lenMap
    refine ⟨_, (pss_cons (ps_set (i := 1) nd rfl (Or.inl rfl) pe_dnewT)
    (pss_cons (ps_for PassesOwn.never rfl (pi_tup (pv 0)) (pg_name (i := 2) nd rfl (Or.inl rfl)) (pss_cons (ps_if (pt_cmp (pc_din hu (pv 2) (pv 1))) (pss_one (ps_ret pe_bl)) pss_nil)
      (pss_one (ps_dput hu (pv 1) (pv 2) pe_bl rfl))))
    (pss_one (ps_ret pe_bl)))), ?_⟩
    refine fun sd nsd => ⟨_, rfl, _, rfl, ⟨xs, SqT.of (by rw [upd_ne (ne_of_none ha nsd)]; exact ha)⟩, ?_⟩
    refine for_it (walk_tup (xs := xs)) (fun i σ H' => ∃ kvs vv, σ = [some (.ref a), some (.ref sd), vv] ∧ H' = upd H sd (.dT kvs) ∧ kvs.length ≤ i ∧ ∀ k, (valV kvs k).isSome = true → ∃ j p, j < i ∧ ws[j]? = some p ∧ k = keyOf p) ⟨[], none, rfl, rfl, Nat.le_refl 0, fun k z => by cases z⟩ ?_ ?_ ?_
    · rintro i σ H' _ ⟨kvs, vv, rfl, rfl, _⟩
      exact SqT.of (by rw [upd_ne (ne_of_none ha nsd)]; exact ha)
    · rintro i x σ H' H2 hi ⟨kvs, vv, rfl, rfl, h1, h2⟩ ⟨rfl, hxi⟩
      obtain ⟨p, hp, tp⟩ := hx.atMap hxi
      obtain ⟨b, rfl, hb⟩ := tp.pair
      have hb' : (upd H sd (.dT kvs)) b = some (.tup ((keyOf p).map kV)) := by
        rw [upd_ne (ne_of_none hb nsd)]
        exact hb
      have no : valV kvs (keyOf p) = none := by
        cases e : valV kvs (keyOf p) with
        | none => rfl
        | some y =>
          obtain ⟨j, p', lt, hj, ek⟩ := h2 (keyOf p) (by rw [e]; rfl)
          exact absurd (keyOf_inj ek).symm (unlike_at hn hj hp lt)
      refine ⟨_, rfl, _, rfl, _, _, rfl, .inr ⟨kvs, keyOf p, b, .inl upd_same, rfl, hb', rfl⟩, ?_⟩
      rw [no]
      refine ⟨_, rfl, iteF ⟨_, rfl, _, rfl, _, _, rfl, .inr ⟨kvs, keyOf p, b, upd_same, rfl, hb', ?_, rfl⟩, ?_⟩⟩
      · have : i < 8 := by omega
        exact Nat.lt_of_le_of_lt h1 (Nat.lt_trans this (by decide))
      · refine ⟨putK kvs (keyOf p) (.bl true), some (.ref b), rfl, ?_, ?_, fun k hk => ?_⟩
        · funext c
          by_cases hc : c = sd
          · rw [hc, upd_same, upd_same]
          · rw [upd_ne hc, upd_ne hc, upd_ne hc]
        · rw [putK_new _ no, List.length_append]
          exact Nat.succ_le_succ h1
        · rw [valV_put] at hk
          by_cases ek : k = keyOf p
          · exact ⟨i, p, Nat.lt_succ_self i, hp, ek⟩
          · rw [if_neg ek] at hk
            obtain ⟨j, p', lt, hj, e⟩ := h2 k hk
            exact ⟨j, p', Nat.lt_succ_of_lt lt, hj, e⟩
    · rintro σ H' ⟨kvs, vv, rfl, rfl, _⟩
      exact q _ (same_new nsd)
/-! ### are_numbers, is_section -/
def spNums : Sp := fun vs H Q _ => ∃ (v : V) (m : Int) (l : List Int), vs = [v, .int m] ∧ TD H v (intsD l) ∧ 1 ≤ l.length ∧ (l.length : Int) ≤ m ∧ (∀ z ∈ l, Num z) ∧ ∀ H', Same H H' → Q (.bl true) H'
theorem sc_nums : FnScope ["value", "most", "one"] ["value", "most"] (defScope (top 18)) := ⟨rfl, rfl, rfl, by decide +kernel, rfl, by decide +kernel, by decide +kernel⟩
theorem sm_rfl (H : Hp) : Same H H := fun _ _ e => e
theorem sm_tup {H H1 : Hp} (k : Same H H1) {a : Addr} {xs : List V} (h : H a = some (.tup xs)) : H1 a = some (.tup xs) := k _ _ h
theorem sm_td {H H1 : Hp} (k : Same H H1) {v : V} {d : PyData} (h : TD H v d) : TD H1 v d := h.kt (Same.kt k)
/-- [] == [] -/
theorem rd_nil {H : Hp} {D p : Addr} {Q : VK} (h1 : H D = some (.lst [])) (h2 : H p = some (.lst [])) (q : Q (.bl true) H) : rEqD K (.ref D) (.ref p) H Q :=
  ⟨.list [], .list [], .lst (SqL.of h1) .nil, .lst (SqL.of h2) .nil, by rfl, by rfl, q⟩
theorem rd_nilN {H : Hp} {D p : Addr} {Q : VK} (h1 : H D = some (.lst [])) (h2 : H p = some (.lst [])) (q : Q (.bl false) H) : rNeD K (.ref D) (.ref p) H Q :=
  ⟨.list [], .list [], .lst (SqL.of h1) .nil, .lst (SqL.of h2) .nil, by rfl, by rfl, q⟩
theorem ok_nums (T : Txt K mg) : DefOk P w K mg base CX0 3 "are_numbers" ["value", "most"] spNums := by
  have D_is_number := ok_is_number (P := P) (w := w) (base := base) T
  refine def0 (i := 3) (j := 3) (n := 18) (N := ["value", "most", "one"]) T rfl rfl sc_nums (fun _ _ _ _ _ _ us hl => match us, hl with | [_, _], _ => rfl) (fun vs H Q E h => ?_) (fun cdv A outer s H vs Q E hr h => ?_)
  · obtain ⟨_, _, _, rfl, _⟩ := h
    rfl
  · obtain ⟨v, m, l, rfl, hd, h1, h2, hn, q⟩ := h
    obtain ⟨a, rfl, ha⟩ := hd.ints
    have nd := sc_nums.nd
    refine ⟨_, (pss_cons (ps_if (PW.pt (pw_or (pt_not (pt_val (pe_isi1 (T := "tuple") rfl rfl T.f_isinstance (pv 0) rfl T.f_tuple (by decide +kernel)))) (pw_or1 (pt_not (pt_chain op_le op_le pe_int (pe_cB call_len (by rfl) T.f_len PySem.boot_len (pv 0)) (pv 1)))))) (pss_one (ps_ret pe_bl)) pss_nil)
    (pss_one (ps_ret (pe_cmpR (op_eqD (u64 hr)) (pe_lc (own := [("one", 2)]) rfl nd (pi_tup (pv 0)) (blkOk_by (N := ["value", "most", "one"]) (sc := defScope (top 18)) (by decide +kernel)) (fun _ _ _ _ _ => (pg_name (i := 2) nd rfl (Or.inl rfl))) (fun _ _ _ _ _ => (pts_one (pt_not (pt_val (pe_def D_is_number (hr.mono (by decide)) rfl (pa_cons (pv 2) pa_nil)))))) (fun _ _ _ _ _ => (pv 2))) (pe_lst pa_nil) (nomark _))))), ?_⟩
    have e : ((l.map V.int).length : Int) = l.length := by rw [List.length_map]
    refine ⟨_, rfl, rd_isi (ty_tup ha) k_tup ⟨true, rfl, iteF ⟨_, rfl, rd_lenT ha ⟨_, _, rfl, rfl, _, rfl, ite_dec (fun _ => ⟨_, rfl, _, _, rfl, rfl, _, rfl, ite_decN (fun z => absurd (by rw [e]; exact h2) z) fun _ => ?_⟩) fun z => absurd (by rw [e]; omega) z⟩⟩⟩⟩
    refine ⟨_, rfl, a, rfl, ⟨_, SqT.of ha⟩, fun D nD => lc_it (walk_tup (xs := l.map V.int)) (fun _ H' => Same H H' ∧ H' D = some (.lst [])) ⟨same_new nD, upd_same⟩ (fun i H' _ h => SqT.of (sm_tup h.1 ha)) ?_ ?_⟩
    · rintro i x H1 H2 hi ⟨k1, k2⟩ ⟨rfl, hx⟩
      obtain ⟨z, hz, rfl⟩ := List.mem_map.mp (List.mem_of_getElem? hx)
      refine ⟨rfl, _, rfl, _, rfl, _, rfl, ?_⟩
      rw [decide_eq_true (hn z hz)]
      exact ⟨k1, k2⟩
    · rintro H1 ⟨k1, k2⟩
      exact ⟨by decide, fun p np => rd_nil (by rw [upd_ne (ne_of_none k2 np)]; exact k2) upd_same (q _ (sm_tr k1 (same_new np)))⟩
def secD (s : List Int × List Int) : PyData := .tuple [intsD s.1, intsD s.2]
theorem TD.sec {H : Hp} {v : V} {s : List Int × List Int} (h : TD H v (secD s)) : ∃ (a b c : Addr), v = .ref a ∧ H a = some (.tup [.ref b, .ref c]) ∧ H b = some (.tup (s.1.map V.int)) ∧ H c = some (.tup (s.2.map V.int)) := by
  obtain ⟨a, xs, e, h1, h2⟩ := h.inv
  cases h2 with
  | cons z1 t =>
    cases t with
    | cons z2 t =>
      cases t
      obtain ⟨b, e1, q1⟩ := z1.ints
      obtain ⟨c, e2, q2⟩ := z2.ints
      rw [e1, e2] at h1
      exact ⟨a, b, c, e, h1, q1, q2⟩
def SecOk (s : List Int × List Int) : Prop := (1 ≤ s.1.length ∧ s.1.length ≤ 200 ∧ ∀ z ∈ s.1, Num z) ∧ 1 ≤ s.2.length ∧ s.2.length ≤ 6 ∧ ∀ z ∈ s.2, Num z
def spSection : Sp := fun vs H Q _ => ∃ (v : V) (s : List Int × List Int), vs = [v] ∧ TD H v (secD s) ∧ SecOk s ∧ ∀ H', Same H H' → Q (.bl true) H'
theorem sc_section : FnScope ["value"] ["value"] (defScope (top 19)) := ⟨rfl, rfl, rfl, by decide +kernel, rfl, by decide +kernel, by decide +kernel⟩
theorem ok_section (T : Txt K mg) : DefOk P w K mg base CX0 4 "is_section" ["value"] spSection := by
  have D_are_numbers := ok_nums (P := P) (w := w) (base := base) T
  refine def0 (i := 4) (j := 4) (n := 19) (N := ["value"]) T rfl rfl sc_section (fun _ _ _ _ _ _ us hl => match us, hl with | [_], _ => rfl) (fun vs H Q E h => ?_) (fun cdv A outer s H vs Q E hr h => ?_)
  · obtain ⟨_, _, rfl, _⟩ := h
    rfl
  · obtain ⟨v, sc, rfl, hd, ⟨⟨b1, b2, b3⟩, c1, c2, c3⟩, q⟩ := h
    obtain ⟨a, b, c, rfl, ha, hb, hc⟩ := hd.sec
    have nd := sc_section.nd
    refine ⟨_, (pss_cons (ps_if (PW.pt (pw_or (pt_not (pt_val (pe_isi1 (T := "tuple") rfl rfl T.f_isinstance (pv 0) rfl T.f_tuple (by decide +kernel)))) (pw_or1 (pt_cmpR op_ne (pe_cB call_len (by rfl) T.f_len PySem.boot_len (pv 0)) pe_int (nomark _))))) (pss_one (ps_ret pe_bl)) pss_nil)
    (pss_one (ps_ret (pe_and (pe_def D_are_numbers (hr.mono (by decide)) rfl (pa_cons (pe_ixC ix_tup (pv 0) pe_int (fun _ _ => rfl)) (pa_cons (pe_const rfl T.MOST_CELLS) pa_nil))) (pe_one (pe_def D_are_numbers (hr.mono (by decide)) rfl (pa_cons (pe_ixC ix_tup (pv 0) pe_int (fun _ _ => rfl)) (pa_cons (pe_const rfl T.MOST_DOORS) pa_nil)))))))), ?_⟩
    refine ⟨_, rfl, rd_isi (ty_tup ha) k_tup ⟨true, rfl, iteF ⟨_, rfl, rd_lenT ha ⟨rfl, _, rfl, ite_intN (fun z => absurd rfl z) fun _ => ?_⟩⟩⟩⟩
    refine ⟨_, rfl, rd_ixT ha rfl ⟨_, _, sc.1, rfl, TD.ofInts hb, b1, by omega, b3, fun H1 k1 => ⟨true, rfl, iteT ⟨_, rfl, rd_ixT (sm_tup k1 ha) rfl ⟨_, _, sc.2, rfl, TD.ofInts (sm_tup k1 hc), c1, by omega, c3, fun H2 k2 => q _ (sm_tr k1 k2)⟩⟩⟩⟩⟩
/-! ### are_board_wires -/
def WireOk (secs : List (List Int × List Int)) (r : Int) (p : Int × Int) : Prop := 0 ≤ p.1 ∧ p.1 < (secs.length : Int) ∧ p.1 ≠ r ∧ 0 ≤ p.2 ∧ ∃ s, secs[p.1.toNat]? = some s ∧ p.2 < (s.2.length : Int)
def spWires : Sp := fun vs H Q _ => ∃ (v sv : V) (r : Int) (ws : List (Int × Int)) (secs : List (List Int × List Int)), vs = [v, .int r, sv] ∧ TD H v (.tuple (ws.map pairD)) ∧ TD H sv (.tuple (secs.map secD)) ∧ ws.length ≤ 8 ∧ ws.Nodup ∧ (∀ p ∈ ws, WireOk secs r p) ∧ ∀ H', Same H H' → Q (.bl true) H'
theorem sc_wires : FnScope ["value", "room", "sections", "pair"] ["value", "room", "sections"] (defScope (top 20)) := ⟨rfl, rfl, rfl, by decide +kernel, rfl, by decide +kernel, by decide +kernel⟩
theorem atI_of {xs : List V} {i : Int} {v : V} (h0 : 0 ≤ i) (h : xs[i.toNat]? = some v) : atI xs i = some v := by
  obtain ⟨n, rfl⟩ := Int.eq_ofNat_of_zero_le h0
  exact atI_nat h
theorem TDs.sec {H : Hp} {xs : List V} {secs : List (List Int × List Int)} (h : TDs H xs (secs.map secD)) {i : Int} {s : List Int × List Int} (h0 : 0 ≤ i) (e : secs[i.toNat]? = some s) :
    ∃ (a b c : Addr), atI xs i = some (.ref a) ∧ H a = some (.tup [.ref b, .ref c]) ∧ H b = some (.tup (s.1.map V.int)) ∧ H c = some (.tup (s.2.map V.int)) := by
  obtain ⟨v, h1, h2⟩ := h.get (i := i.toNat) (d := secD s) (by rw [List.getElem?_map, e]; rfl)
  obtain ⟨a, b, c, rfl, q1, q2, q3⟩ := h2.sec
  exact ⟨a, b, c, atI_of h0 h1, q1, q2, q3⟩
theorem ok_wires (T : Txt K mg) : DefOk P w K mg base CX0 2 "are_board_wires" ["value", "room", "sections"] spWires := by
  have D_is_whole := ok_is_whole (P := P) (w := w) (base := base) T
  have D_are_unlike := ok_unlike (P := P) (w := w) (base := base) T
  refine def0 (i := 5) (j := 5) (n := 20) (N := ["value", "room", "sections", "pair"]) T rfl rfl sc_wires (fun _ _ _ _ _ _ us hl => match us, hl with | [_, _, _], _ => rfl) (fun vs H Q E h => ?_) (fun cdv A outer s H vs Q E hr h => ?_)
  · obtain ⟨_, _, _, _, _, rfl, _⟩ := h
    rfl
  · obtain ⟨v, sv, r, ws, secs, rfl, hd, hs, hl, hn, hw, q⟩ := h
    have hd' := hd
    obtain ⟨a, xs, rfl, ha, hx⟩ := hd.inv
    obtain ⟨b, ys, rfl, hb, hy⟩ := hs.inv
    have nd := sc_wires.nd
    have lx := hx.lenMap
    have ly := hy.lenMap
    refine ⟨_, (pss_cons (ps_if (PW.pt (pw_or (pt_not (pt_val (pe_isi1 (T := "tuple") rfl rfl T.f_isinstance (pv 0) rfl T.f_tuple (by decide +kernel)))) (pw_or1 (pt_cmpR op_gt (pe_cB call_len (by rfl) T.f_len PySem.boot_len (pv 0)) (pe_const rfl T.MOST_IMPORTS) (nomark _))))) (pss_one (ps_ret pe_bl)) pss_nil)
    (pss_cons (ps_for PassesOwn.never rfl (pi_tup (pv 0)) (pg_name (i := 3) nd rfl (Or.inl rfl)) (pss_cons (ps_if (PW.pt (pw_or (pt_not (pt_val (pe_isi1 (T := "tuple") rfl rfl T.f_isinstance (pv 3) rfl T.f_tuple (by decide +kernel)))) (pw_or (pt_cmpR op_ne (pe_cB call_len (by rfl) T.f_len PySem.boot_len (pv 3)) pe_int (nomark _)) (pw_or (pt_not (pt_val (pe_def D_is_whole (hr.mono (by decide)) rfl (pa_cons (pe_ixC ix_tup (pv 3) pe_int (fun _ _ => rfl)) pa_nil)))) (pw_or1 (pt_not (pt_val (pe_def D_is_whole (hr.mono (by decide)) rfl (pa_cons (pe_ixC ix_tup (pv 3) pe_int (fun _ _ => rfl)) pa_nil))))))))) (pss_one (ps_ret pe_bl)) pss_nil)
      (pss_one (ps_if (PW.pt (pw_or (pt_not (pt_chain op_le op_lt pe_int (pe_ixC ix_tup (pv 3) pe_int (fun _ _ => rfl)) (pe_cB call_len (by rfl) T.f_len PySem.boot_len (pv 2)))) (pw_or (pt_cmpR op_eq (pe_ixC ix_tup (pv 3) pe_int (fun _ _ => rfl)) (pv 1) (nomark _)) (pw_or1 (pt_not (pt_chain op_le op_lt pe_int (pe_ixC ix_tup (pv 3) pe_int (fun _ _ => rfl)) (pe_cB call_len (by rfl) T.f_len PySem.boot_len (pe_ixC ix_tup (pe_ix ix_tup (pv 2) (pe_ixC ix_tup (pv 3) pe_int (fun _ _ => rfl)) (fun _ _ => rfl)) pe_int (fun _ _ => rfl))))))))) (pss_one (ps_ret pe_bl)) pss_nil))))
    (pss_one (ps_ret (pe_def D_are_unlike (hr.mono (by decide)) rfl (pa_cons (pv 0) pa_nil)))))), ?_⟩
    refine ⟨_, rfl, rd_isi (ty_tup ha) k_tup ⟨true, rfl, iteF ⟨_, rfl, rd_lenT ha ⟨_, _, rfl, rfl, _, rfl, ite_dec (fun z => by omega) fun _ => ?_⟩⟩⟩⟩
    refine ⟨_, rfl, a, rfl, ⟨xs, SqT.of ha⟩, for_it (walk_tup (xs := xs)) (fun i σ H' => ∃ vv, σ = [some (.ref a), some (.int r), some (.ref b), vv] ∧ H' = H) ⟨none, rfl, rfl⟩ ?_ ?_ ?_⟩
    · rintro i σ H' _ ⟨vv, rfl, rfl⟩
      exact SqT.of ha
    · rintro i x σ H' H2 hi ⟨vv, rfl, rfl⟩ ⟨rfl, hxi⟩
      obtain ⟨p, hp, tp⟩ := hx.atMap hxi
      obtain ⟨c, rfl, hc⟩ := tp.pair
      obtain ⟨w1, w2, w3, w4, sec, w5, w6⟩ := hw p (List.mem_of_getElem? hp)
      obtain ⟨sa, sb, sd, e1, e2, e3, e4⟩ := hy.sec w1 w5
      refine ⟨_, rfl, rd_isi (ty_tup hc) k_tup ⟨true, rfl, iteF ⟨_, rfl, rd_lenT hc ⟨rfl, _, rfl, ite_intN (fun z => absurd rfl z) fun _ => ?_⟩⟩⟩⟩
      refine ⟨_, rfl, rd_ixT hc rfl ⟨_, true, rfl, rfl, true, rfl, iteF ⟨_, rfl, rd_ixT hc rfl ⟨_, true, rfl, rfl, true, rfl, iteF ?_⟩⟩⟩⟩
      refine ⟨_, rfl, rd_ixT hc rfl ⟨_, _, rfl, rfl, _, rfl, ite_dec (fun _ => ⟨_, rfl, rd_lenT hb ⟨_, _, rfl, rfl, _, rfl, ite_decN (fun z => by omega) fun _ => ?_⟩⟩) fun z => absurd w1 z⟩⟩
      refine ⟨_, rfl, rd_ixT hc rfl ⟨_, rfl, rfl, _, rfl, ite_int (fun z => absurd z w3) fun _ => ?_⟩⟩
      refine ⟨_, rfl, rd_ixT hc rfl ⟨_, _, rfl, rfl, _, rfl, ite_dec (fun _ => ⟨_, rfl, _, rfl, rd_ixT hc rfl (rd_ixT hb e1 (rd_ixT e2 rfl (rd_lenT e4 ⟨_, _, rfl, rfl, _, rfl, ite_decN (fun z => by rw [List.length_map] at z; omega) fun _ => ?_⟩)))⟩) fun z => absurd w4 z⟩⟩
      exact ⟨_, rfl, rfl⟩
    · rintro σ H' ⟨vv, rfl, rfl⟩
      exact ⟨_, rfl, _, ws, rfl, hd', hn, hl, q⟩
end K25
set_option maxHeartbeats 2000000
/-! is_board, need_board, on data that is right -/
namespace K25
open PySem PySem.Spec PyProof.Rows L2 He
variable {P : Program} {w : World} {K : PySem.W.Frag} {mg : Str → Option Value} {base : Heap}
def wiresD (ws : List (Int × Int)) : PyData := .tuple (ws.map pairD)
theorem TD.bd {H : Hp} {v : V} {b : Bd} (h : TD H v (bdD b)) : ∃ (a wb sb : Addr) (wxs sxs : List V), v = .ref a ∧ H a = some (.tup [.int b.dep, .ref wb, .ref sb]) ∧ H wb = some (.tup wxs) ∧ TDs H wxs (b.wires.map wiresD) ∧ H sb = some (.tup sxs) ∧ TDs H sxs (b.secs.map secD) := by
  obtain ⟨a, xs, e, h1, h2⟩ := h.inv
  cases h2 with
  | cons z1 t =>
    cases t with
    | cons z2 t =>
      cases t with
      | cons z3 t =>
        cases t
        obtain ⟨wb, wxs, e1, q1, r1⟩ := z2.inv
        obtain ⟨sb, sxs, e2, q2, r2⟩ := z3.inv
        rw [z1.inv_int, e1, e2] at h1
        exact ⟨a, wb, sb, wxs, sxs, e, h1, q1, r1, q2, r2⟩
def spBoard : Sp := fun vs H Q _ => ∃ (v : V) (b : Bd), vs = [v] ∧ TD H v (bdD b) ∧ WfB b ∧ ∀ H', Same H H' → Q (.bl true) H'
abbrev NB : List Str := ["value", "depth", "wires", "sections", "section", "room", "pairs"]
theorem sc_board : FnScope NB ["value"] (defScope (top 21)) := ⟨rfl, rfl, rfl, by decide +kernel, rfl, by decide +kernel, by decide +kernel⟩
theorem ok_board (T : Txt K mg) : DefOk P w K mg base CX0 5 "is_board" ["value"] spBoard := by
  have D_is_whole := ok_is_whole (P := P) (w := w) (base := base) T
  have D_is_section := ok_section (P := P) (w := w) (base := base) T
  have D_are_board_wires := ok_wires (P := P) (w := w) (base := base) T
  refine def0 (i := 6) (j := 6) (n := 21) (N := NB) T rfl rfl sc_board (fun _ _ _ _ _ _ us hl => match us, hl with | [_], _ => rfl) (fun vs H Q E h => ?_) (fun cdv A outer s H vs Q E hr h => ?_)
  · obtain ⟨_, _, rfl, _⟩ := h
    rfl
  · obtain ⟨v, b, rfl, hd, wf, q⟩ := h
    obtain ⟨a, wb, sb, wxs, sxs, rfl, ha, hw, tw, hs, ts⟩ := hd.bd
    have nd := sc_board.nd
    have lw := tw.lenMap
    have ls := ts.lenMap
    have hdep := wf.dep
    have hn1 := wf.n1
    have hn6 := wf.n6
    have hlen := wf.len
    refine ⟨_, (pss_cons (ps_if (PW.pt (pw_or (pt_not (pt_val (pe_isi1 (T := "tuple") rfl rfl T.f_isinstance (pv 0) rfl T.f_tuple (by decide +kernel)))) (pw_or (pt_cmpR op_ne (pe_cB call_len (by rfl) T.f_len PySem.boot_len (pv 0)) pe_int (nomark _)) (pw_or (pt_not (pt_val (pe_def D_is_whole (hr.mono (by decide)) rfl (pa_cons (pe_ixC ix_tup (pv 0) pe_int (fun _ _ => rfl)) pa_nil)))) (pw_or1 (pt_not (pt_chain op_le op_le pe_int (pe_ixC ix_tup (pv 0) pe_int (fun _ _ => rfl)) (pe_const rfl T.MOST_DEPTH)))))))) (pss_one (ps_ret pe_bl)) pss_nil)
    (pss_cons (ps_asg (pv 0) (pg_tup rfl (pgs_cons (pg_name (i := 1) nd rfl (Or.inl rfl)) (pgs_cons (pg_name (i := 2) nd rfl (Or.inl rfl)) (pgs_cons (pg_name (i := 3) nd rfl (Or.inr rfl)) pgs_nil)))))
    (pss_cons (ps_if (PW.pt (pw_or (pt_not (pt_val (pe_isi1 (T := "tuple") rfl rfl T.f_isinstance (pv 3) rfl T.f_tuple (by decide +kernel)))) (pw_or1 (pt_not (pt_chain op_le op_le pe_int (pe_cB call_len (by rfl) T.f_len PySem.boot_len (pv 3)) (pe_const rfl T.MOST_ROOMS)))))) (pss_one (ps_ret pe_bl)) pss_nil)
    (pss_cons (ps_if (pt_cmpR (op_neD (u64 hr)) (pe_lc (own := [("section", 4)]) rfl nd (pi_tup (pv 3)) (blkOk_by (N := ["value", "depth", "wires", "sections", "section", "room", "pairs"]) (sc := defScope (top 21)) (by decide +kernel)) (fun _ _ _ _ _ => (pg_name (i := 4) nd rfl (Or.inl rfl))) (fun _ _ _ _ _ => (pts_one (pt_not (pt_val (pe_def D_is_section (hr.mono (by decide)) rfl (pa_cons (pv 4) pa_nil)))))) (fun _ _ _ _ _ => (pv 4))) (pe_lst pa_nil) (nomark _)) (pss_one (ps_ret pe_bl)) pss_nil)
    (pss_cons (ps_if (PW.pt (pw_or (pt_not (pt_val (pe_isi1 (T := "tuple") rfl rfl T.f_isinstance (pv 2) rfl T.f_tuple (by decide +kernel)))) (pw_or1 (pt_cmpR op_ne (pe_cB call_len (by rfl) T.f_len PySem.boot_len (pv 2)) (pe_cB call_len (by rfl) T.f_len PySem.boot_len (pv 3)) (nomark _))))) (pss_one (ps_ret pe_bl)) pss_nil)
    (pss_one (ps_ret (pe_cmpR (op_eqD (u64 hr)) (pe_lc (own := [("room", 5), ("pairs", 6)]) rfl nd (pi_enumT (by rfl) T.f_enumerate (pa_cons (pv 2) pa_nil)) (blkOk_by (N := ["value", "depth", "wires", "sections", "section", "room", "pairs"]) (sc := defScope (top 21)) (by decide +kernel)) (fun _ _ _ _ _ => pg_two (i := 5) (j := 6) (K := K) rfl rfl nd rfl rfl (.inl rfl) (.inl rfl) (.inr rfl) (.inr rfl)) (fun _ _ _ _ _ => (pts_one (pt_not (pt_val (pe_def D_are_board_wires (hr.mono (by decide)) rfl (pa_cons (pv 6) (pa_cons (pv 5) (pa_cons (pv 3) pa_nil)))))))) (fun _ _ _ _ _ => (pv 5))) (pe_lst pa_nil) (nomark _))))))))), ?_⟩
    refine ⟨_, rfl, rd_isi (ty_tup ha) k_tup ⟨true, rfl, iteF ⟨_, rfl, rd_lenT ha ⟨rfl, _, rfl, ite_intN (fun z => absurd rfl z) fun _ => ?_⟩⟩⟩⟩
    refine ⟨_, rfl, rd_ixT ha rfl ⟨_, true, rfl, rfl, true, rfl, iteF ⟨_, rfl, rd_ixT ha rfl ⟨_, _, rfl, rfl, _, rfl, ite_dec (fun _ => ⟨_, _, rfl, rfl, _, rfl, ite_decN (fun z => absurd hdep.2 z) fun _ => ?_⟩) fun z => absurd hdep.1 z⟩⟩⟩⟩
    refine ⟨_, rfl, a, _, rfl, SqT.of ha, rfl, _, _, rfl, _, _, rfl, _, _, rfl, rfl, ?_⟩
    refine ⟨_, rfl, rd_isi (ty_tup hs) k_tup ⟨true, rfl, iteF ⟨_, rfl, rd_lenT hs ⟨_, _, rfl, rfl, _, rfl, ite_dec (fun _ => ⟨_, _, rfl, rfl, _, rfl, ite_decN (fun z => by omega) fun _ => ?_⟩) fun z => by omega⟩⟩⟩⟩
    refine ⟨_, rfl, sb, rfl, ⟨_, SqT.of hs⟩, fun D nD => lc_it (walk_tup (xs := sxs)) (fun _ H' => Same H H' ∧ H' D = some (.lst [])) ⟨same_new nD, upd_same⟩ (fun i H' _ h => SqT.of (sm_tup h.1 hs)) ?_ ?_⟩
    · rintro i x H1 H2 hi ⟨k1, k2⟩ ⟨rfl, hx⟩
      obtain ⟨sec, hsec, tsec⟩ := ts.atMap hx
      have m := List.mem_of_getElem? hsec
      exact ⟨rfl, _, rfl, _, sec, rfl, sm_td k1 tsec, ⟨wf.cells sec m, wf.ents sec m⟩, fun H3 k3 => ⟨_, rfl, sm_tr k1 k3, k3 _ _ k2⟩⟩
    rintro H1 ⟨k1, k2⟩
    refine ⟨by decide, fun p np => rd_nilN (by rw [upd_ne (ne_of_none k2 np)]; exact k2) upd_same ⟨_, rfl, iteF ?_⟩⟩
    have s1 : Same H (upd H1 p (.lst [])) := sm_tr k1 (same_new np)
    generalize upd H1 p (.lst []) = H2 at s1
    refine ⟨_, rfl, rd_isi (ty_tup (sm_tup s1 hw)) k_tup ⟨true, rfl, iteF ⟨_, rfl, rd_lenT (sm_tup s1 hw) ⟨_, rfl, rd_lenT (sm_tup s1 hs) ⟨rfl, _, rfl, ite_intN (fun z => absurd (by omega) z) fun _ => ?_⟩⟩⟩⟩⟩
    refine ⟨_, rfl, wb, _, rfl, SqT.of (sm_tup s1 hw), fun D nD => lc_it (walk_enumT (xs := wxs)) (fun _ H' => Same H2 H' ∧ H' D = some (.lst [])) ⟨same_new nD, upd_same⟩ (fun i H' _ h => SqT.of (sm_tup h.1 (sm_tup s1 hw))) ?_ ?_⟩
    · rintro i x H3 H4 hi ⟨k1, k2⟩ ⟨t, x1, y1, rfl, nt, rfl, e1, e2⟩
      cases e1
      obtain ⟨ws, hws, tws⟩ := tw.atMap e2
      obtain ⟨w1, w2, w3⟩ := wf.wl i ws hws
      have s3 : Same H (upd H3 t (.tup [.int (i : Int), y1])) := sm_tr s1 (sm_tr k1 (same_new nt))
      refine ⟨t, _, rfl, SqT.of upd_same, rfl, _, _, rfl, _, _, rfl, rfl, rfl, _, rfl, _, rfl, _, rfl, _, _, _, ws, b.secs, rfl, sm_td s3 tws, .tup (sm_tup s3 hs) (ts.kt (Same.kt s3)), w1, w2, w3, fun H5 k5 => ⟨_, rfl, ?_⟩⟩
      exact ⟨sm_tr k1 (sm_tr (same_new nt) k5), k5 _ _ (by rw [upd_ne (ne_of_none k2 nt)]; exact k2)⟩
    · rintro H3 ⟨k1, k2⟩
      exact ⟨by decide, fun p np => rd_nil (by rw [upd_ne (ne_of_none k2 np)]; exact k2) upd_same (q _ (sm_tr s1 (sm_tr k1 (same_new np))))⟩
def spNeedBoard : Sp := fun vs H Q _ => ∃ (v : V) (b : Bd), vs = [v] ∧ TD H v (bdD b) ∧ WfB b ∧ ∀ H', Same H H' → Q .non H'
theorem sc_needboard : FnScope ["board"] ["board"] (defScope (top 22)) := ⟨rfl, rfl, rfl, by decide +kernel, rfl, by decide +kernel, by decide +kernel⟩
theorem ok_need_board (T : Txt K mg) : DefOk P w K mg base CX0 6 "need_board" ["board"] spNeedBoard := by
  have D_is_board := ok_board (P := P) (w := w) (base := base) T
  refine def0 (i := 7) (j := 7) (n := 22) (N := ["board"]) T rfl rfl sc_needboard (fun _ _ _ _ _ _ us hl => match us, hl with | [_], _ => rfl) (fun vs H Q E h => ?_) (fun cdv A outer s H vs Q E hr h => ?_)
  · obtain ⟨_, _, rfl, _⟩ := h
    rfl
  · obtain ⟨v, b, rfl, hd, wf, q⟩ := h
    refine ⟨_, (pss_one (ps_if (pt_not (pt_val (pe_def D_is_board (hr.mono (by decide)) rfl (pa_cons (pv 0) pa_nil)))) (pss_one ps_never) pss_nil)), ?_⟩
    exact ⟨_, rfl, _, b, rfl, hd, wf, fun H' k => ⟨true, rfl, iteF (q H' k)⟩⟩
end K25
set_option maxHeartbeats 2000000
/-! a machine's objects: what each store leaves -/
namespace K25
open PySem PySem.Spec PyProof.Rows L2 He
/-- MR with its board's and its place's values -/
structure MX (C : Addr) (H : Hp) (A : MA) (b : Bd) (s : MS) (stp : Int) (ad : PyData) (vb av : V) : Prop where
  nd : (A.m :: A.lists).Nodup
  tb : TD H vb (bdD b)
  ta : TD H av ad
  m : H A.m = some (.ins C A.dx (mf vb A.cl A.rg A.rw_ stp s.mode.str s.room s.addr A.ak av))
  cl : H A.cl = some (.lst (A.cas.map V.ref))
  cs : CellsAt H A.cas s.cells
  rg : IL H A.rg s.regs
  row : ∃ vs, H A.rw_ = some (.lst vs) ∧ TDs H vs s.rowD
  asks : ∃ vs, H A.ak = some (.lst vs) ∧ TDs H vs s.asksD
section
variable {C : Addr} {H H1 : Hp} {A : MA} {b : Bd} {s s' : MS} {stp stp' : Int} {ad ad' : PyData} {vb av av' : V}
theorem MX.mr (h : MX C H A b s stp ad vb av) : MR C H A b s stp ad := ⟨(List.nodup_cons.mp h.nd).2, ⟨vb, av, h.tb, h.ta, h.m⟩, h.cl, h.cs, h.rg, h.row, h.asks⟩
theorem MR.mx (h : MR C H A b s stp ad) : ∃ vb av, MX C H A b s stp ad vb av := by
  obtain ⟨vb, av, h1, h2, h3⟩ := h.ex
  refine ⟨vb, av, List.nodup_cons.mpr ⟨fun z => ?_, h.nd⟩, h1, h2, h3, h.cl, h.cs, h.rg, h.row, h.asks⟩
  have lst : ∃ xs, H A.m = some (.lst xs) := by
    rcases List.mem_cons.mp z with e | k
    · exact ⟨_, by rw [e]; exact h.cl⟩
    · rcases List.mem_cons.mp k with e | k
      · exact ⟨_, by rw [e]; exact h.rg⟩
      · rcases List.mem_cons.mp k with e | k
        · obtain ⟨vs, q, _⟩ := h.row
          exact ⟨_, by rw [e]; exact q⟩
        · rcases List.mem_cons.mp k with e | k
          · obtain ⟨vs, q, _⟩ := h.asks
            exact ⟨_, by rw [e]; exact q⟩
          · obtain ⟨i, hi, e⟩ := List.mem_iff_getElem.mp k
            obtain ⟨l1, q⟩ := h.cs
            have hj : i < s.cells.length := by omega
            exact ⟨_, q i A.m s.cells[i] (by rw [List.getElem?_eq_getElem hi, e]) (List.getElem?_eq_getElem hj)⟩
  obtain ⟨xs, q⟩ := lst
  rw [h3] at q
  cases q
/-- the ten places that differ, and the lists of cells -/
structure Apart (A : MA) : Prop where
  m1 : A.m ≠ A.cl
  m2 : A.m ≠ A.rg
  m3 : A.m ≠ A.rw_
  m4 : A.m ≠ A.ak
  m5 : ∀ p ∈ A.cas, A.m ≠ p
  c1 : A.cl ≠ A.rg
  c2 : A.cl ≠ A.rw_
  c3 : A.cl ≠ A.ak
  c4 : ∀ p ∈ A.cas, A.cl ≠ p
  r1 : A.rg ≠ A.rw_
  r2 : A.rg ≠ A.ak
  r3 : ∀ p ∈ A.cas, A.rg ≠ p
  w1 : A.rw_ ≠ A.ak
  w2 : ∀ p ∈ A.cas, A.rw_ ≠ p
  k1 : ∀ p ∈ A.cas, A.ak ≠ p
  nd : A.cas.Nodup
theorem apart (h : (A.m :: A.lists).Nodup) : Apart A := by
  unfold MA.lists at h
  simp only [List.nodup_cons, List.mem_cons, not_or] at h
  obtain ⟨⟨a1, a2, a3, a4, a5⟩, ⟨b1, b2, b3, b4⟩, ⟨c1, c2, c3⟩, ⟨d1, d2⟩, e1, e2⟩ := h
  exact ⟨a1, a2, a3, a4, fun p hp z => a5 (z ▸ hp), b1, b2, b3, fun p hp z => b4 (z ▸ hp), c1, c2, fun p hp z => c3 (z ▸ hp), d1, fun p hp z => d2 (z ▸ hp), fun p hp z => e1 (z ▸ hp), e2⟩
theorem CellsAt.keep {cas : List Addr} {cs : List (List Int)} (h : CellsAt H cas cs) (k : ∀ p ∈ cas, ∀ o, H p = some o → H1 p = some o) : CellsAt H1 cas cs :=
  ⟨h.1, fun i ca c e1 e2 => k ca (List.mem_of_getElem? e1) _ (h.2 i ca c e1 e2)⟩
theorem ex_keep {p : Addr} {ds : List PyData} (kt : KT H H1) (k : ∀ o, H p = some o → H1 p = some o) (h : ∃ vs, H p = some (.lst vs) ∧ TDs H vs ds) : ∃ vs, H1 p = some (.lst vs) ∧ TDs H1 vs ds := by
  obtain ⟨vs, h1, h2⟩ := h
  exact ⟨vs, k _ h1, h2.kt kt⟩
theorem kt_upd {a : Addr} {o : HO} (n : ∀ xs, H a ≠ some (.tup xs)) : KT H (upd H a o) := fun c xs e => by
  by_cases z : c = a
  · rw [z] at e
    exact absurd e (n xs)
  · rw [upd_ne z]
    exact e
theorem keep_upd {a p : Addr} {o : HO} (n : a ≠ p) : ∀ u, H p = some u → (upd H a o) p = some u := fun u e => by
  rw [upd_ne (Ne.symm n)]
  exact e
theorem lst_not {a : Addr} {l : List V} (h : H a = some (.lst l)) : ∀ xs, H a ≠ some (.tup xs) := fun xs z => by
  rw [h] at z
  cases z
theorem MX.same (h : MX C H A b s stp ad vb av) (k : Same H H1) : MX C H1 A b s stp ad vb av :=
  ⟨h.nd, sm_td k h.tb, sm_td k h.ta, k _ _ h.m, k _ _ h.cl, h.cs.keep fun p _ o e => k p o e, k _ _ h.rg, ex_keep (Same.kt k) (fun o e => k _ o e) h.row, ex_keep (Same.kt k) (fun o e => k _ o e) h.asks⟩
/-- a store to an attribute -/
theorem MX.setM (h : MX C H A b s stp ad vb av) (e1 : s'.cells = s.cells) (e2 : s'.regs = s.regs) (e3 : s'.row = s.row) (e4 : s'.asks = s.asks) (ta : TD H av' ad') :
    MX C (upd H A.m (.ins C A.dx (mf vb A.cl A.rg A.rw_ stp' s'.mode.str s'.room s'.addr A.ak av'))) A b s' stp' ad' vb av' := by
  have P := apart h.nd
  have kt : KT H (upd H A.m (.ins C A.dx (mf vb A.cl A.rg A.rw_ stp' s'.mode.str s'.room s'.addr A.ak av'))) := kt_upd fun xs z => by
    rw [h.m] at z
    cases z
  have r : s'.rowD = s.rowD := by unfold MS.rowD; rw [e3]
  have a : s'.asksD = s.asksD := by unfold MS.asksD; rw [e4]
  refine ⟨h.nd, h.tb.kt kt, ta.kt kt, upd_same, keep_upd P.m1 _ h.cl, ?_, ?_, ?_, ?_⟩
  · rw [e1]
    exact h.cs.keep fun p hp o e => keep_upd (P.m5 p hp) o e
  · rw [e2]
    exact keep_upd P.m2 _ h.rg
  · rw [r]
    exact ex_keep kt (keep_upd P.m3) h.row
  · rw [a]
    exact ex_keep kt (keep_upd P.m4) h.asks
theorem MX.offM (h : MX C H A b s stp ad vb av) {o : HO} : Off A.foot H (upd H A.m o) := Off.upd (.inl rfl) fun xs z => by
  rw [h.m] at z
  cases z
/-- row.append -/
theorem MX.addRow (h : MX C H A b s stp ad vb av) {p : Str × List Int} {v : V} {vs : List V} (hv : H A.rw_ = some (.lst vs)) (tv : TD H v (crD p)) :
    MX C (upd H A.rw_ (.lst (vs ++ [v]))) A b { s with row := s.row ++ [p] } stp ad vb av := by
  have P := apart h.nd
  have kt : KT H (upd H A.rw_ (.lst (vs ++ [v]))) := kt_upd (lst_not hv)
  obtain ⟨us, h1, h2⟩ := h.row
  rw [hv] at h1
  cases h1
  refine ⟨h.nd, h.tb.kt kt, h.ta.kt kt, keep_upd (Ne.symm P.m3) _ h.m, keep_upd (Ne.symm P.c2) _ h.cl, h.cs.keep fun p hp o e => keep_upd (P.w2 p hp) o e, keep_upd (Ne.symm P.r1) _ h.rg, ⟨_, upd_same, ?_⟩, ex_keep kt (keep_upd P.w1) h.asks⟩
  have e : (MS.rowD { s with row := s.row ++ [p] }) = s.rowD ++ [crD p] := by
    show (s.row ++ [p]).map crD = _
    rw [List.map_append]
    rfl
  rw [e]
  exact TDs.app (h2.kt kt) (TDs.one (tv.kt kt))
theorem MX.offRow (h : MX C H A b s stp ad vb av) {o : HO} : Off A.foot H (upd H A.rw_ o) := Off.upd (.inr (List.mem_cons_of_mem _ (List.mem_cons_of_mem _ List.mem_cons_self))) fun xs z => by
  obtain ⟨us, h1, _⟩ := h.row
  rw [h1] at z
  cases z
/-- the list of open asks -/
theorem MX.setAsks (h : MX C H A b s stp ad vb av) {as : List (Int × Int)} {us : List V} (tv : TDs H us (as.map pairD)) : MX C (upd H A.ak (.lst us)) A b { s with asks := as } stp ad vb av := by
  have P := apart h.nd
  obtain ⟨vs, h1, _⟩ := h.asks
  have kt : KT H (upd H A.ak (.lst us)) := kt_upd (lst_not h1)
  exact ⟨h.nd, h.tb.kt kt, h.ta.kt kt, keep_upd (Ne.symm P.m4) _ h.m, keep_upd (Ne.symm P.c3) _ h.cl, h.cs.keep fun p hp o e => keep_upd (P.k1 p hp) o e, keep_upd (Ne.symm P.r2) _ h.rg, ex_keep kt (keep_upd (Ne.symm P.w1)) h.row, ⟨_, upd_same, tv.kt kt⟩⟩
theorem MX.offAsks (h : MX C H A b s stp ad vb av) {o : HO} : Off A.foot H (upd H A.ak o) := Off.upd (.inr (List.mem_cons_of_mem _ (List.mem_cons_of_mem _ (List.mem_cons_of_mem _ List.mem_cons_self)))) fun xs z => by
  obtain ⟨us, h1, _⟩ := h.asks
  rw [h1] at z
  cases z
theorem MX.setRegs (h : MX C H A b s stp ad vb av) {r : List Int} : MX C (upd H A.rg (.lst (r.map V.int))) A b { s with regs := r } stp ad vb av := by
  have P := apart h.nd
  have kt : KT H (upd H A.rg (.lst (r.map V.int))) := kt_upd (lst_not h.rg)
  exact ⟨h.nd, h.tb.kt kt, h.ta.kt kt, keep_upd (Ne.symm P.m2) _ h.m, keep_upd (Ne.symm P.c1) _ h.cl, h.cs.keep fun p hp o e => keep_upd (P.r3 p hp) o e, upd_same, ex_keep kt (keep_upd P.r1) h.row, ex_keep kt (keep_upd P.r2) h.asks⟩
theorem MX.offRegs (h : MX C H A b s stp ad vb av) {o : HO} : Off A.foot H (upd H A.rg o) := Off.upd (.inr (List.mem_cons_of_mem _ List.mem_cons_self)) (lst_not h.rg)
/-- the list of cells of room r -/
theorem MX.cell (h : MX C H A b s stp ad vb av) {r : Nat} (hr : r < s.cells.length) : ∃ ca, A.cas[r]? = some ca ∧ IL H ca (s.cells.getD r []) := by
  have hl : r < A.cas.length := by
    rw [h.cs.1]
    exact hr
  refine ⟨A.cas[r], List.getElem?_eq_getElem hl, h.cs.2 r _ _ (List.getElem?_eq_getElem hl) ?_⟩
  rw [List.getD_eq_getElem?_getD, List.getElem?_eq_getElem hr]
  rfl
theorem MX.setCell (h : MX C H A b s stp ad vb av) {r : Nat} {ca : Addr} {c : List Int} (hca : A.cas[r]? = some ca) : MX C (upd H ca (.lst (c.map V.int))) A b { s with cells := s.cells.set r c } stp ad vb av := by
  have P := apart h.nd
  have mem := List.mem_of_getElem? hca
  have hl : r < s.cells.length := by
    rw [← h.cs.1]
    exact (List.getElem?_eq_some_iff.mp hca).1
  have there := h.cs.2 r ca s.cells[r] hca (List.getElem?_eq_getElem hl)
  have kt : KT H (upd H ca (.lst (c.map V.int))) := kt_upd (lst_not there)
  refine ⟨h.nd, h.tb.kt kt, h.ta.kt kt, keep_upd (Ne.symm (P.m5 ca mem)) _ h.m, keep_upd (Ne.symm (P.c4 ca mem)) _ h.cl, ⟨?_, fun i p d e1 e2 => ?_⟩, keep_upd (Ne.symm (P.r3 ca mem)) _ h.rg, ex_keep kt (keep_upd (Ne.symm (P.w2 ca mem))) h.row, ex_keep kt (keep_upd (Ne.symm (P.k1 ca mem))) h.asks⟩
  · show A.cas.length = (s.cells.set r c).length
    rw [List.length_set]
    exact h.cs.1
  · have e2' : (s.cells.set r c)[i]? = some d := e2
    by_cases hi : i = r
    · subst hi
      rw [hca] at e1
      cases e1
      rw [List.getElem?_set_self hl] at e2'
      cases e2'
      exact upd_same
    · rw [List.getElem?_set_ne (Ne.symm hi)] at e2'
      have np : ca ≠ p := fun z => by
        subst z
        obtain ⟨a1, a2⟩ := List.getElem?_eq_some_iff.mp hca
        obtain ⟨b1, b2⟩ := List.getElem?_eq_some_iff.mp e1
        have := (List.pairwise_iff_getElem.mp P.nd)
        rcases Nat.lt_or_gt_of_ne hi with lt | lt
        · exact this i r b1 a1 lt (b2.trans a2.symm)
        · exact this r i a1 b1 lt (a2.trans b2.symm)
      exact keep_upd np _ (h.cs.2 i p d e1 e2')
theorem MX.offCell (h : MX C H A b s stp ad vb av) {r : Nat} {ca : Addr} {o : HO} (hca : A.cas[r]? = some ca) : Off A.foot H (upd H ca o) := by
  have hl : r < s.cells.length := by
    rw [← h.cs.1]
    exact (List.getElem?_eq_some_iff.mp hca).1
  exact Off.upd (.inr (List.mem_cons_of_mem _ (List.mem_cons_of_mem _ (List.mem_cons_of_mem _ (List.mem_cons_of_mem _ (List.mem_of_getElem? hca)))))) (lst_not (h.cs.2 r ca s.cells[r] hca (List.getElem?_eq_getElem hl)))
end
/-! ### the first state -/
def initS (b : Bd) (n : Int) : MS := ⟨b.secs.map (·.1), n :: List.replicate 9 0, [(("start" : Str), [n])], 0, .run, 0, g (b.secs.getD 0 ([], [])).2 0, []⟩
theorem init_wf {b : Bd} {n : Int} (hb : WfB b) (hn : Num n) : WfM b (initS b n) := by
  have n1 := hb.n1
  have e0 : b.secs[0]? = some b.secs[0] := List.getElem?_eq_getElem (by omega)
  refine ⟨List.length_map .., fun c hc => ?_, rfl, fun z hz => ?_, ⟨Int.le_refl 0, by show (0 : Int) < _; omega⟩, ?_, fun p hp => (by cases hp), (by show ((0 : Nat) : Int) ≤ 60; decide), fun p hp => ?_, (by show ((1 : Nat) : Int) ≤ 0 + 1; decide), Int.le_refl 0⟩
  · obtain ⟨x, hx, rfl⟩ := List.mem_map.mp hc
    exact hb.cells x hx
  · rcases List.mem_cons.mp hz with e | hz
    · rw [e]
      exact hn
    · rw [List.eq_of_mem_replicate hz]
      exact ⟨by decide, by decide⟩
  · show 0 ≤ g (b.secs.getD 0 ([], [])).2 0 ∧ g (b.secs.getD 0 ([], [])).2 0 ≤ 9999
    rw [List.getD_eq_getElem?_getD, e0]
    exact num_g (hb.ents _ (List.mem_of_getElem? e0)).2.2 0
  · rw [List.mem_singleton.mp hp]
    exact ⟨w_start, by show ([n] : List Int).length ≤ 4; simp, fun z hz => by rw [List.mem_singleton.mp hz]; exact hn⟩
end K25
set_option maxHeartbeats 2000000
/-! Machine: its properties, cross_over -/
namespace K25
open PySem PySem.Spec PyProof.Rows L2 He
variable {P : Program} {w : World} {K : PySem.W.Frag} {mg : Str → Option Value} {base : Heap}
abbrev CM (K : PySem.W.Frag) : Addr := ga K "Machine"
section
variable {C : Addr} {H H1 : Hp} {A : MA} {b : Bd} {s : MS} {stp : Int} {ad : PyData} {vb av : V}
theorem MX.setState (h : MX C H A b s stp ad vb av) (md : Mode) : MX C (upd H A.m (.ins C A.dx (putF "m_state" (.str md.str) (mf vb A.cl A.rg A.rw_ stp s.mode.str s.room s.addr A.ak av)))) A b { s with mode := md } stp ad vb av := by
  rw [pu_state]
  exact h.setM (s' := { s with mode := md }) rfl rfl rfl rfl h.ta
theorem MX.setRoom (h : MX C H A b s stp ad vb av) (r : Int) : MX C (upd H A.m (.ins C A.dx (putF "m_room" (.int r) (mf vb A.cl A.rg A.rw_ stp s.mode.str s.room s.addr A.ak av)))) A b { s with room := r } stp ad vb av := by
  rw [pu_room]
  exact h.setM (s' := { s with room := r }) rfl rfl rfl rfl h.ta
theorem MX.setAddr (h : MX C H A b s stp ad vb av) (r : Int) : MX C (upd H A.m (.ins C A.dx (putF "m_address" (.int r) (mf vb A.cl A.rg A.rw_ stp s.mode.str s.room s.addr A.ak av)))) A b { s with addr := r } stp ad vb av := by
  rw [pu_addr]
  exact h.setM (s' := { s with addr := r }) rfl rfl rfl rfl h.ta
theorem MX.setSteps (h : MX C H A b s stp ad vb av) (r : Int) : MX C (upd H A.m (.ins C A.dx (putF "m_steps" (.int r) (mf vb A.cl A.rg A.rw_ stp s.mode.str s.room s.addr A.ak av)))) A b s r ad vb av := by
  rw [pu_steps]
  exact h.setM (s' := s) rfl rfl rfl rfl h.ta
theorem MX.setAt (h : MX C H A b s stp ad vb av) {av' : V} {ad' : PyData} (t : TD H av' ad') : MX C (upd H A.m (.ins C A.dx (putF "at" av' (mf vb A.cl A.rg A.rw_ stp s.mode.str s.room s.addr A.ak av)))) A b s stp ad' vb av' := by
  rw [pu_at]
  exact h.setM (s' := s) rfl rfl rfl rfl t
/-- self.m_row.append((w, ..)) -/
theorem MX.pushRow (h : MX C H A b s stp ad vb av) {x : Str} {l : List Int} {vs : List V} {p : Addr} (hv : H A.rw_ = some (.lst vs)) (np : H p = none) :
    MX C (upd (upd H p (.tup (.str x :: l.map V.int))) A.rw_ (.lst (vs ++ [.ref p]))) A b { s with row := s.row ++ [(x, l)] } stp ad vb av ∧ Off A.foot H (upd (upd H p (.tup (.str x :: l.map V.int))) A.rw_ (.lst (vs ++ [.ref p]))) := by
  have k := same_new (H := H) (o := .tup (.str x :: l.map V.int)) np
  have h1 := h.same k
  exact ⟨h1.addRow (p := (x, l)) (k _ _ hv) (.tup upd_same (.cons (.str x) (TDs.ofInts l))), (Off.same k).trans h1.offRow⟩
theorem MX.rowLen (h : MX C H A b s stp ad vb av) {vs : List V} (hv : H A.rw_ = some (.lst vs)) : vs.length = s.row.length := by
  obtain ⟨us, h1, h2⟩ := h.row
  rw [hv] at h1
  cases h1
  exact h2.lenMap
end
/-! ### properties -/
def spRow (K : PySem.W.Frag) : Sp := fun vs H Q _ => ∃ (A : MA) (b : Bd) (s : MS) (stp : Int) (ad : PyData), vs = [.ref A.m] ∧ MR (CM K) H A b s stp ad ∧ ∀ (p : Addr) (us : List V), H p = none → TDs H us s.rowD → Q (.ref p) (upd H p (.lst us))
def spStp (K : PySem.W.Frag) : Sp := fun vs H Q _ => ∃ (A : MA) (b : Bd) (s : MS) (stp : Int) (ad : PyData), vs = [.ref A.m] ∧ MR (CM K) H A b s stp ad ∧ Q (.int stp) H
def spState (K : PySem.W.Frag) : Sp := fun vs H Q _ => ∃ (A : MA) (b : Bd) (s : MS) (stp : Int) (ad : PyData), vs = [.ref A.m] ∧ MR (CM K) H A b s stp ad ∧ Q (.str s.mode.str) H
def spRegs (K : PySem.W.Frag) : Sp := fun vs H Q _ => ∃ (A : MA) (b : Bd) (s : MS) (stp : Int) (ad : PyData), vs = [.ref A.m] ∧ MR (CM K) H A b s stp ad ∧ ∀ p : Addr, H p = none → Q (.ref p) (upd H p (.tup (s.regs.map V.int)))
def spAsks (K : PySem.W.Frag) : Sp := fun vs H Q _ => ∃ (A : MA) (b : Bd) (s : MS) (stp : Int) (ad : PyData), vs = [.ref A.m] ∧ MR (CM K) H A b s stp ad ∧ ∀ (p : Addr) (us : List V), H p = none → TDs H us s.asksD → Q (.ref p) (upd H p (.lst us))
theorem sc_prow : FnScope ["self"] ["self"] (defScope (inClass (top 33) 1)) := ⟨rfl, rfl, rfl, by decide +kernel, rfl, by decide +kernel, by decide +kernel⟩
theorem ok_prow (T : Txt K mg) : PropOk P w K mg base CX0 1 "row" ["self"] (spRow K) := by
  refine prop0 (i := 0) (n := 1) (q := "Machine.row") (N := ["self"]) T rfl sc_prow (fun _ _ _ _ _ _ us hl => match us, hl with | [_], _ => rfl) (fun vs H Q E h => ?_) (fun cdv A outer s H vs Q E hr h => ?_)
  · obtain ⟨_, _, _, _, _, rfl, _⟩ := h
    rfl
  · obtain ⟨M, b, s, stp, ad, rfl, hm, q⟩ := h
    obtain ⟨vb, av, hx⟩ := hm.mx
    refine ⟨_, (pss_one (ps_ret (pe_cT call_list rfl T.f_list (by decide +kernel) (pe_fld (pv 0) rfl)))), ?_⟩
    obtain ⟨us, hv, tv⟩ := hx.row
    exact ⟨_, rfl, _, _, _, _, _, rfl, hx.m, T.cl, T.noat 3 _ rfl, lk_row, rd_listL hv fun p np => q p us np tv⟩
theorem sc_psteps : FnScope ["self"] ["self"] (defScope (inClass (top 33) 2)) := ⟨rfl, rfl, rfl, by decide +kernel, rfl, by decide +kernel, by decide +kernel⟩
theorem ok_psteps (T : Txt K mg) : PropOk P w K mg base CX0 1 "steps" ["self"] (spStp K) := by
  refine prop0 (i := 1) (n := 2) (q := "Machine.steps") (N := ["self"]) T rfl sc_psteps (fun _ _ _ _ _ _ us hl => match us, hl with | [_], _ => rfl) (fun vs H Q E h => ?_) (fun cdv A outer s H vs Q E hr h => ?_)
  · obtain ⟨_, _, _, _, _, rfl, _⟩ := h
    rfl
  · obtain ⟨M, b, s, stp, ad, rfl, hm, q⟩ := h
    obtain ⟨vb, av, hx⟩ := hm.mx
    refine ⟨_, (pss_one (ps_ret (pe_fld (pv 0) rfl))), ?_⟩
    exact ⟨_, rfl, _, _, _, _, _, rfl, hx.m, T.cl, T.noat 4 _ rfl, lk_steps, q⟩
theorem sc_pstate : FnScope ["self"] ["self"] (defScope (inClass (top 33) 3)) := ⟨rfl, rfl, rfl, by decide +kernel, rfl, by decide +kernel, by decide +kernel⟩
theorem ok_pstate (T : Txt K mg) : PropOk P w K mg base CX0 1 "state" ["self"] (spState K) := by
  refine prop0 (i := 2) (n := 3) (q := "Machine.state") (N := ["self"]) T rfl sc_pstate (fun _ _ _ _ _ _ us hl => match us, hl with | [_], _ => rfl) (fun vs H Q E h => ?_) (fun cdv A outer s H vs Q E hr h => ?_)
  · obtain ⟨_, _, _, _, _, rfl, _⟩ := h
    rfl
  · obtain ⟨M, b, s, stp, ad, rfl, hm, q⟩ := h
    obtain ⟨vb, av, hx⟩ := hm.mx
    refine ⟨_, (pss_one (ps_ret (pe_fld (pv 0) rfl))), ?_⟩
    exact ⟨_, rfl, _, _, _, _, _, rfl, hx.m, T.cl, T.noat 5 _ rfl, lk_state, q⟩
theorem sc_pregisters : FnScope ["self"] ["self"] (defScope (inClass (top 33) 4)) := ⟨rfl, rfl, rfl, by decide +kernel, rfl, by decide +kernel, by decide +kernel⟩
theorem ok_pregisters (T : Txt K mg) : PropOk P w K mg base CX0 1 "registers" ["self"] (spRegs K) := by
  refine prop0 (i := 3) (n := 4) (q := "Machine.registers") (N := ["self"]) T rfl sc_pregisters (fun _ _ _ _ _ _ us hl => match us, hl with | [_], _ => rfl) (fun vs H Q E h => ?_) (fun cdv A outer s H vs Q E hr h => ?_)
  · obtain ⟨_, _, _, _, _, rfl, _⟩ := h
    rfl
  · obtain ⟨M, b, s, stp, ad, rfl, hm, q⟩ := h
    obtain ⟨vb, av, hx⟩ := hm.mx
    refine ⟨_, (pss_one (ps_ret (pe_cT call_tuple rfl T.f_tuple (by decide +kernel) (pe_fld (pv 0) rfl)))), ?_⟩
    exact ⟨_, rfl, _, _, _, _, _, rfl, hx.m, T.cl, T.noat 2 _ rfl, lk_regs, rd_tupL hx.rg fun p np => q p np⟩
theorem sc_popen_asks : FnScope ["self"] ["self"] (defScope (inClass (top 33) 5)) := ⟨rfl, rfl, rfl, by decide +kernel, rfl, by decide +kernel, by decide +kernel⟩
theorem ok_popen_asks (T : Txt K mg) : PropOk P w K mg base CX0 1 "open_asks" ["self"] (spAsks K) := by
  refine prop0 (i := 4) (n := 5) (q := "Machine.open_asks") (N := ["self"]) T rfl sc_popen_asks (fun _ _ _ _ _ _ us hl => match us, hl with | [_], _ => rfl) (fun vs H Q E h => ?_) (fun cdv A outer s H vs Q E hr h => ?_)
  · obtain ⟨_, _, _, _, _, rfl, _⟩ := h
    rfl
  · obtain ⟨M, b, s, stp, ad, rfl, hm, q⟩ := h
    obtain ⟨vb, av, hx⟩ := hm.mx
    refine ⟨_, (pss_one (ps_ret (pe_cT call_list rfl T.f_list (by decide +kernel) (pe_fld (pv 0) rfl)))), ?_⟩
    obtain ⟨us, hv, tv⟩ := hx.asks
    exact ⟨_, rfl, _, _, _, _, _, rfl, hx.m, T.cl, T.noat 8 _ rfl, lk_asks, rd_listL hv fun p np => q p us np tv⟩
/-! ### cross_over -/
theorem eqv_pair (p q : Int × Int) : PyData.eqv (pairD p) (pairD q) = decide (p = q) := by
  obtain ⟨a, b⟩ := p
  obtain ⟨c, d⟩ := q
  by_cases h1 : a = c
  · by_cases h2 : b = d
    · subst h1 h2
      simp [pairD, PyData.eqv, PyData.eqvAll]
    · have : ¬ (a, b) = (c, d) := fun z => h2 (Prod.mk.inj z).2
      rw [decide_eq_false this]
      simp [pairD, PyData.eqv, PyData.eqvAll, h2]
  · have : ¬ (a, b) = (c, d) := fun z => h1 (Prod.mk.inj z).1
    rw [decide_eq_false this]
    simp [pairD, PyData.eqv, PyData.eqvAll, h1]
theorem any_pair (p : Int × Int) : ∀ ws : List (Int × Int), ((ws.map pairD).any fun z => PyData.eqv z (pairD p)) = decide (p ∈ ws)
  | [] => rfl
  | q :: ws => by
    rw [List.map_cons, List.any_cons, eqv_pair, any_pair p ws]
    by_cases h : q = p
    · subst h
      rw [decide_eq_true rfl, decide_eq_true List.mem_cons_self]
      rfl
    · rw [decide_eq_false h, Bool.false_or]
      by_cases h2 : p ∈ ws
      · rw [decide_eq_true h2, decide_eq_true (List.mem_cons_of_mem _ h2)]
      · rw [decide_eq_false h2, decide_eq_false]
        intro z
        rcases List.mem_cons.mp z with e | e
        · exact h e.symm
        · exact h2 e
theorem plain_wires {ws : List (Int × Int)} (h : ∀ p ∈ ws, Num p.1 ∧ Num p.2) : plain (wiresD ws) = true := by
  have : plainAll (ws.map pairD) = true := plainAll_of fun x hx => by
    obtain ⟨p, hp, rfl⟩ := List.mem_map.mp hx
    exact plain_pair (h p hp).1 (h p hp).2
  simpa [wiresD, plain] using this
theorem depth_wires (ws : List (Int × Int)) : (wiresD ws).depth ≤ 64 := by
  have := depthAll_le (n := 1) (xs := ws.map pairD) fun x hx => by
    obtain ⟨p, hp, rfl⟩ := List.mem_map.mp hx
    exact depth_pair p
  simp only [wiresD, PyData.depth]
  omega
theorem shaped_asks {b : Bd} {s : MS} (hb : WfB b) (h : WfM b s) : SeqAt.shaped (.list s.asksD) = true := shaped_of (by simpa [plain] using asks_plain hb h) (by
  have := asks_depth (s := s)
  simp only [PyData.depth]
  omega)
def spCross (K : PySem.W.Frag) : Sp := fun vs H Q _ => ∃ (A : MA) (b : Bd) (s : MS) (stp : Int) (ad : PyData) (code : Int), vs = [.ref A.m, .int code] ∧ MR (CM K) H A b s stp ad ∧ WfB b ∧ WfM b s ∧ (s.row.length : Int) ≤ 4000000 ∧ s.addr ≤ 9998 ∧ ∀ H', Off A.foot H H' → MR (CM K) H' A b (crossM b s code) stp ad → Q .non H'
abbrev NC : List Str := ["self", "code", "room", "number", "to", "door"]
theorem sc_cross : FnScope NC ["self", "code"] (defScope (inClass (top 33) 7)) := ⟨rfl, rfl, rfl, by decide +kernel, rfl, by decide +kernel, by decide +kernel⟩
theorem isEmpty_asks (s : MS) : PyData.eqv (.list s.asksD) (.list []) = s.asks.isEmpty := by
  unfold MS.asksD
  cases s.asks with
  | nil => simp [PyData.eqv, PyData.eqvAll]
  | cons p l => simp [PyData.eqv, PyData.eqvAll]
theorem ok_cross (T : Txt K mg) : MethOk P w K mg base CX0 1 "cross_over" ["self", "code"] (spCross K) := by
  refine meth0 (i := 34) (n := 7) (q := "Machine.cross_over") (N := NC) T rfl sc_cross (fun _ _ _ _ _ _ us hl => match us, hl with | [_, _], _ => rfl) (fun vs H Q E h => ?_) (fun cdv A outer s H vs Q E hr h => ?_)
  · obtain ⟨_, _, _, _, _, _, rfl, _⟩ := h
    rfl
  · obtain ⟨M, b, s, stp, ad, code, rfl, hm, hb, wf, hrl, ha8, q⟩ := h
    obtain ⟨vb, av, hx⟩ := hm.mx
    obtain ⟨ba, wb, sb, wxs, sxs, rfl, ha, hw, tw, hs, ts⟩ := hx.tb.bd
    have nd := sc_cross.nd
    obtain ⟨rws, hrw, trw⟩ := hx.row
    obtain ⟨aks, hak, tak⟩ := hx.asks
    have lrw := trw.lenMap
    have lak := tak.lenMap
    have hrl' : rws.length < sizeLine := by
      rw [lrw]
      show s.row.length < 16777216
      omega
    have hroom := wf.room
    have ndig : ∀ {i : Int}, i % 10 < (s.regs.length : Int) := fun {i} => by
      rw [wf.rl]
      exact (m10 i).2
    have hl10 : (0 : Int) < (s.regs.length : Int) := by
      rw [wf.rl]
      decide
    have ng := fun i => num_g wf.rn i
    refine ⟨_, (pss_cons (ps_par (i := 2) (j := 3) (by rfl) nd rfl rfl (by decide) rfl rfl (pa_cons (pe_fld (pv 0) rfl) (pa_cons (pe_ixC ix_list (pe_fld (pv 0) rfl) pe_int (fun _ _ => rfl)) pa_nil)) (by rfl))
    (pss_one (ps_if (pt_cmpR op_lt (pe_op op_mod (pv 1) pe_int) pe_int (nomark _)) (pss_cons (ps_par (i := 4) (j := 5) (by rfl) nd rfl rfl (by decide) rfl rfl (pa_cons (pe_ix ix_list (pe_fld (pv 0) rfl) (pe_op op_mod (pe_op op_fdiv (pv 1) pe_int) pe_int) (fun _ _ => rfl)) (pa_cons (pe_ix ix_list (pe_fld (pv 0) rfl) (pe_op op_mod (pe_op op_fdiv (pv 1) pe_int) pe_int) (fun _ _ => rfl)) pa_nil)) (by rfl))
      (pss_one (ps_if (pt_cmpR (op_notInDT (units65 hr)) (pe_tup (pa_cons (pv 4) (pa_cons (pv 5) pa_nil))) (pe_ix ix_tup (pe_ixC ix_tup (pe_fld (pv 0) rfl) pe_int (fun _ _ => rfl)) (pv 2) (fun _ _ => rfl)) (by rfl)) (pss_cons (ps_expr (pe_bm PySem.F.plainAttrs_list PySem.F.slot_list_append PySem.F.type_list_append mt_append (pe_fld (pv 0) rfl) (pa_cons (pe_tup (pa_cons pe_str (pa_cons (pv 2) pa_nil))) pa_nil)))
        (pss_one (ps_fld (pv 0) pe_str rfl))) (pss_one (ps_if (pt_cmpR op_ge (pe_cB call_len (by rfl) T.f_len PySem.boot_len (pe_fld (pv 0) rfl)) (pe_ixC ix_tup (pe_fld (pv 0) rfl) pe_int (fun _ _ => rfl)) (nomark _)) (pss_cons (ps_expr (pe_bm PySem.F.plainAttrs_list PySem.F.slot_list_append PySem.F.type_list_append mt_append (pe_fld (pv 0) rfl) (pa_cons (pe_tup (pa_cons pe_str (pa_cons (pv 2) (pa_cons (pv 4) (pa_cons (pv 5) (pa_cons (pv 3) pa_nil)))))) pa_nil)))
          (pss_one (ps_fld (pv 0) pe_str rfl))) (pss_cons (ps_expr (pe_bm PySem.F.plainAttrs_list PySem.F.slot_list_append PySem.F.type_list_append mt_append (pe_fld (pv 0) rfl) (pa_cons (pe_tup (pa_cons (pv 2) (pa_cons (pe_op op_add (pe_fld (pv 0) rfl) pe_int) pa_nil))) pa_nil)))
          (pss_cons (ps_expr (pe_bm PySem.F.plainAttrs_list PySem.F.slot_list_append PySem.F.type_list_append mt_append (pe_fld (pv 0) rfl) (pa_cons (pe_tup (pa_cons pe_str (pa_cons (pv 2) (pa_cons (pv 4) (pa_cons (pv 5) (pa_cons (pv 3) pa_nil)))))) pa_nil)))
          (pss_one (ps_asg (pe_tup (pa_cons (pv 4) (pa_cons (pe_ix ix_tup (pe_ixC ix_tup (pe_ix ix_tup (pe_ixC ix_tup (pe_fld (pv 0) rfl) pe_int (fun _ _ => rfl)) (pv 4) (fun _ _ => rfl)) pe_int (fun _ _ => rfl)) (pv 5) (fun _ _ => rfl)) pa_nil))) (pg_tup rfl (pgs_cons (pg_attr (pv 0)) (pgs_cons (pg_attr (pv 0)) pgs_nil)))))))))))) (pss_one (ps_if (pt_cmpR (op_eqD (u64 hr)) (pe_fld (pv 0) rfl) (pe_lst pa_nil) (nomark _)) (pss_cons (ps_expr (pe_bm PySem.F.plainAttrs_list PySem.F.slot_list_append PySem.F.type_list_append mt_append (pe_fld (pv 0) rfl) (pa_cons (pe_tup (pa_cons pe_str (pa_cons (pv 3) pa_nil))) pa_nil)))
        (pss_one (ps_fld (pv 0) pe_str rfl))) (pss_cons (ps_asg (pe_bm0 PySem.F.plainAttrs_list PySem.F.slot_list_pop PySem.F.type_list_pop mt_pop (pe_fld (pv 0) rfl)) (pg_tup rfl (pgs_cons (pg_attr (pv 0)) (pgs_cons (pg_attr (pv 0)) pgs_nil))))
        (pss_one (ps_expr (pe_bm PySem.F.plainAttrs_list PySem.F.slot_list_append PySem.F.type_list_append mt_append (pe_fld (pv 0) rfl) (pa_cons (pe_tup (pa_cons pe_str (pa_cons (pv 2) (pa_cons (pe_fld (pv 0) rfl) (pa_cons (pv 3) pa_nil))))) pa_nil)))))))))), ?_⟩
    refine ⟨_, rfl, _, _, _, _, _, rfl, hx.m, T.cl, T.noat 6 _ rfl, lk_room, _, rfl, _, _, _, _, _, rfl, hx.m, T.cl, T.noat 2 _ rfl, lk_regs, rd_ix hx.rg (Int.le_refl 0) hl10 ⟨_, _, rfl, ?_⟩⟩
    refine ⟨_, rfl, _, _, rfl, rfl, p10, _, _, rfl, rfl, _, rfl, ite_dec (fun c1 => ?_) fun c1 => ?_⟩
    · unfold crossM at q
      rw [if_pos c1] at q
      refine ⟨_, rfl, _, _, _, _, _, rfl, hx.m, T.cl, T.noat 2 _ rfl, lk_regs, _, rfl, _, _, rfl, rfl, ⟨by decide, by decide⟩, _, _, rfl, rfl, p10, rd_ix hx.rg (m10 _).1 ndig ⟨_, rfl, _, _, _, _, _, rfl, hx.m, T.cl, T.noat 2 _ rfl, lk_regs, _, rfl, _, _, rfl, rfl, ⟨by decide, by decide⟩, _, _, rfl, rfl, p10, rd_ix hx.rg (m10 _).1 ndig ⟨_, _, rfl, ?_⟩⟩⟩
      refine ⟨_, rfl, _, rfl, Nat.le_of_ble_eq_true rfl, fun p np => ?_⟩
      have kp := same_new (o := .tup [.int (g s.regs (code / 100 % 10)), .int (g s.regs (code / 10 % 10))]) np
      have hy := hx.same kp
      obtain ⟨ws, hws⟩ : ∃ ws, b.wires[s.room.toNat]? = some ws := by
        have hlt : s.room.toNat < b.wires.length := by
          rw [hb.len]
          omega
        exact ⟨_, List.getElem?_eq_getElem hlt⟩
      obtain ⟨wv, hwv, twv⟩ := tw.get (i := s.room.toNat) (d := wiresD ws) (by rw [List.getElem?_map, hws]; rfl)
      obtain ⟨w1, w2, w3⟩ := hb.wl _ _ hws
      have hn6 := hb.n6
      have pw : plain (wiresD ws) = true := plain_wires fun z hz => by
        obtain ⟨z1, z2, z3, z4, sec, z5, z6⟩ := w3 z hz
        have ze := hb.ents sec (List.mem_of_getElem? z5)
        exact ⟨⟨z1, by omega⟩, ⟨z4, by omega⟩⟩
      rw [List.getD_eq_getElem?_getD, hws] at q
      refine ⟨_, rfl, _, _, _, _, _, rfl, hy.m, T.cl, T.noat 0 _ rfl, lk_board, rd_ixT (sm_tup kp ha) rfl ⟨_, rfl, rd_ixT (sm_tup kp hw) (atI_of hroom.1 hwv) ⟨pairD (g s.regs (code / 100 % 10), g s.regs (code / 10 % 10)), ws.map pairD, (TD.ofPair (p := (g s.regs (code / 100 % 10), g s.regs (code / 10 % 10))) upd_same).dp, (sm_td kp twv).dp, shaped_of (plain_pair (ng _) (ng _)) (Nat.le_trans (depth_pair _) (by decide)), shaped_of pw (depth_wires ws), ?_⟩⟩⟩
      rw [any_pair]
      refine ⟨_, rfl, ite_decN (fun c2 => ?_) fun c2 => ?_⟩
      · rw [if_pos (show ¬ _ ∈ (some ws).getD [] from c2)] at q
        refine ⟨_, rfl, _, _, _, _, _, rfl, hy.m, T.cl, T.noat 3 _ rfl, lk_row, .inl ⟨rfl, _, SqL.of (kp _ _ hrw)⟩, _, rfl, Nat.le_of_ble_eq_true rfl, fun p2 np2 => ⟨_, _, _, rfl, rfl, (same_new np2) _ _ (kp _ _ hrw), hrl', ?_⟩⟩
        obtain ⟨hz, oz⟩ := hy.pushRow (x := "end") (l := [s.room]) (kp _ _ hrw) np2
        refine ⟨_, rfl, _, _, _, _, rfl, hz.m, T.cl, T.noat 5 _ rfl, mf_len, ?_⟩
        exact q _ (((Off.same kp).trans oz).trans hz.offM) (hz.setState .fin).mr
      · rw [if_neg (show ¬ ¬ _ ∈ (some ws).getD [] from fun z => z c2)] at q
        refine ⟨_, rfl, _, _, _, _, _, rfl, hy.m, T.cl, T.noat 8 _ rfl, lk_asks, rd_lenL (kp _ _ hak) ⟨_, rfl, _, _, _, _, _, rfl, hy.m, T.cl, T.noat 0 _ rfl, lk_board, rd_ixT (sm_tup kp ha) rfl ⟨_, _, rfl, rfl, _, rfl, ite_dec (fun c3 => ?_) fun c3 => ?_⟩⟩⟩
        · rw [if_pos (by rw [← lak]; exact c3)] at q
          refine ⟨_, rfl, _, _, _, _, _, rfl, hy.m, T.cl, T.noat 3 _ rfl, lk_row, .inl ⟨rfl, _, SqL.of (kp _ _ hrw)⟩, _, rfl, _, rfl, _, rfl, _, rfl, Nat.le_of_ble_eq_true rfl, fun p2 np2 => ⟨_, _, _, rfl, rfl, (same_new np2) _ _ (kp _ _ hrw), hrl', ?_⟩⟩
          obtain ⟨hz, oz⟩ := hy.pushRow (x := "deep") (l := [s.room, g s.regs (code / 100 % 10), g s.regs (code / 10 % 10), g s.regs 0]) (kp _ _ hrw) np2
          refine ⟨_, rfl, _, _, _, _, rfl, hz.m, T.cl, T.noat 5 _ rfl, mf_len, ?_⟩
          exact q _ (((Off.same kp).trans oz).trans hz.offM) (hz.setState .deep).mr
        · rw [if_neg (by rw [← lak]; exact c3)] at q
          have hal := wf.askl
          refine ⟨_, rfl, _, _, _, _, _, rfl, hy.m, T.cl, T.noat 8 _ rfl, lk_asks, .inl ⟨rfl, _, SqL.of (kp _ _ hak)⟩, _, rfl, _, rfl, _, _, _, _, _, rfl, hy.m, T.cl, T.noat 7 _ rfl, lk_addr, _, _, rfl, rfl, Nat.le_of_ble_eq_true rfl, fun p2 np2 => ⟨_, _, _, rfl, rfl, (same_new np2) _ _ (kp _ _ hak), ?_, ?_⟩⟩
          · rw [lak]
            show s.asks.length < 16777216
            omega
          have k2 := same_new (o := .tup [.int s.room, .int (s.addr + 1)]) np2
          have hy2 := hy.same k2
          have ta : TDs (upd (upd H p (.tup [.int (g s.regs (code / 100 % 10)), .int (g s.regs (code / 10 % 10))])) p2 (.tup [.int s.room, .int (s.addr + 1)])) (aks ++ [.ref p2]) ((s.asks ++ [(s.room, s.addr + 1)]).map pairD) := by
            rw [List.map_append]
            exact TDs.app (tak.kt (Same.kt (sm_tr kp k2))) (TDs.one (TD.ofPair (p := (s.room, s.addr + 1)) upd_same))
          have hz := hy2.setAsks (as := s.asks ++ [(s.room, s.addr + 1)]) ta
          have oz := ((Off.same (F := M.foot) kp).trans (Off.same k2)).trans (hy2.offAsks (o := .lst (aks ++ [.ref p2])))
          have P := apart hx.nd
          have hrw2 := keep_upd (o := .lst (aks ++ [.ref p2])) (Ne.symm P.w1) _ (k2 _ _ (kp _ _ hrw))
          refine ⟨_, rfl, _, _, _, _, _, rfl, hz.m, T.cl, T.noat 3 _ rfl, lk_row, .inl ⟨rfl, _, SqL.of hrw2⟩, _, rfl, _, rfl, _, rfl, _, rfl, Nat.le_of_ble_eq_true rfl, fun p3 np3 => ⟨_, _, _, rfl, rfl, (same_new np3) _ _ hrw2, hrl', ?_⟩⟩
          obtain ⟨hu, ou⟩ := hz.pushRow (x := "call") (l := [s.room, g s.regs (code / 100 % 10), g s.regs (code / 10 % 10), g s.regs 0]) hrw2 np3
          have o3 := oz.trans ou
          obtain ⟨z1, z2, z3, z4, sec, z5, z6⟩ := w3 _ c2
          obtain ⟨sa, sb2, sc2, e1, e2, e3, e4⟩ := ts.sec z1 z5
          rw [List.getD_eq_getElem?_getD, z5] at q
          refine ⟨_, rfl, _, rfl, _, _, _, _, _, rfl, hu.m, T.cl, T.noat 0 _ rfl, lk_board, rd_ixT (o3.tup ha) rfl ⟨_, rfl, rd_ixT (o3.tup hs) e1 (rd_ixT (o3.tup e2) rfl ⟨_, rfl, rd_ixT (o3.tup e4) (g_at z4 z6) ⟨Nat.le_of_ble_eq_true rfl, fun p4 np4 => ?_⟩⟩)⟩⟩
          have hu2 := hu.same (same_new (o := .tup [.int (g s.regs (code / 100 % 10)), .int (g sec.2 (g s.regs (code / 10 % 10)))]) np4)
          have hv := hu2.setRoom (g s.regs (code / 100 % 10))
          refine ⟨p4, _, rfl, SqT.of upd_same, rfl, _, _, rfl, _, rfl, _, _, _, _, rfl, hu2.m, T.cl, T.noat 6 _ rfl, mf_len, _, _, rfl, _, rfl, _, _, _, _, rfl, hv.m, T.cl, T.noat 7 _ rfl, mf_len, rfl, ?_⟩
          exact q _ (((o3.trans (Off.new np4)).trans hu2.offM).trans hv.offM) (hv.setAddr (g sec.2 (g s.regs (code / 10 % 10)))).mr
    · unfold crossM at q
      rw [if_neg c1] at q
      refine ⟨_, rfl, _, _, _, _, _, rfl, hx.m, T.cl, T.noat 8 _ rfl, lk_asks, Nat.le_of_ble_eq_true rfl, fun p np => ⟨.list s.asksD, .list [], .lst (SqL.of ((same_new np) _ _ hak)) (tak.kt (Same.kt (same_new np))).dp, .lst (SqL.of upd_same) .nil, shaped_asks hb wf, by rfl, ?_⟩⟩
      rw [isEmpty_asks]
      have kp := same_new (o := .lst []) np
      have hy := hx.same kp
      refine ⟨_, rfl, ?_⟩
      cases e : s.asks.getLast? with
      | none =>
        rw [e] at q
        have e0 := List.getLast?_eq_none_iff.mp e
        rw [e0]
        refine iteT ⟨_, rfl, _, _, _, _, _, rfl, hy.m, T.cl, T.noat 3 _ rfl, lk_row, .inl ⟨rfl, _, SqL.of (kp _ _ hrw)⟩, _, rfl, Nat.le_of_ble_eq_true rfl, fun p2 np2 => ⟨_, _, _, rfl, rfl, (same_new np2) _ _ (kp _ _ hrw), hrl', ?_⟩⟩
        obtain ⟨hz, oz⟩ := hy.pushRow (x := "done") (l := [g s.regs 0]) (kp _ _ hrw) np2
        refine ⟨_, rfl, _, _, _, _, rfl, hz.m, T.cl, T.noat 5 _ rfl, mf_len, ?_⟩
        exact q _ (((Off.same kp).trans oz).trans hz.offM) (hz.setState .done).mr
      | some z =>
        rw [e] at q
        have ne : s.asks ≠ [] := fun h0 => by
          rw [h0] at e
          cases e
        have em : s.asks.isEmpty = false := by
          cases h0 : s.asks with
          | nil => exact absurd h0 ne
          | cons _ _ => rfl
        rw [em]
        have hlast : s.asks[s.asks.length - 1]? = some z := by
          rw [← List.getLast?_eq_getElem?]
          exact e
        obtain ⟨v, hv, tv⟩ := tak.get (i := s.asks.length - 1) (d := pairD z) (by
          show (s.asks.map pairD)[s.asks.length - 1]? = _
          rw [List.getElem?_map, hlast]
          rfl)
        obtain ⟨zb, rfl, hzb⟩ := tv.pair
        have hz := hy.setAsks (as := s.asks.dropLast) (us := aks.dropLast) (by
          have t := (tak.kt (Same.kt kp)).dropLast
          rw [List.map_dropLast]
          exact t)
        have oz := (Off.same (F := M.foot) kp).trans (hy.offAsks (o := .lst aks.dropLast))
        have hzr := hz.setRoom z.1
        have hza := hzr.setAddr z.2
        refine iteF ⟨_, rfl, _, _, _, _, _, rfl, hy.m, T.cl, T.noat 8 _ rfl, lk_asks, .inl ⟨rfl, _, SqL.of (kp _ _ hak)⟩, _, _, _, rfl, rfl, kp _ _ hak, by rw [lak]; exact hv, zb, _, rfl, SqT.of (oz.tup hzb), rfl, _, _, rfl, _, rfl, _, _, _, _, rfl, hz.m, T.cl, T.noat 6 _ rfl, mf_len, _, _, rfl, _, rfl, _, _, _, _, rfl, hzr.m, T.cl, T.noat 7 _ rfl, mf_len, rfl, ?_⟩
        obtain ⟨rw2, hrw2, trw2⟩ := hza.row
        have l2 : rw2.length = s.row.length := trw2.lenMap
        refine ⟨_, rfl, _, _, _, _, _, rfl, hza.m, T.cl, T.noat 3 _ rfl, lk_row, .inl ⟨rfl, _, SqL.of hrw2⟩, _, rfl, _, rfl, _, _, _, _, _, rfl, hza.m, T.cl, T.noat 6 _ rfl, lk_room, _, rfl, Nat.le_of_ble_eq_true rfl, fun p2 np2 => ⟨_, _, _, rfl, rfl, (same_new np2) _ _ hrw2, by rw [l2, ← lrw]; exact hrl', ?_⟩⟩
        obtain ⟨hu, ou⟩ := hza.pushRow (x := "back") (l := [s.room, z.1, g s.regs 0]) hrw2 np2
        exact q _ (((oz.trans hz.offM).trans hzr.offM).trans ou) hu.mr
end K25
set_option maxHeartbeats 2000000
/-! Machine.go -/
namespace K25
open PySem PySem.Spec PyProof.Rows L2 He
variable {P : Program} {w : World} {K : PySem.W.Frag} {mg : Str → Option Value} {base : Heap}
theorem MX.anySteps {C : Addr} {H : Hp} {A : MA} {b : Bd} {s : MS} {stp : Int} {ad : PyData} {vb av : V} (h : MX C H A b s stp ad vb av) (k : Int) : MX C H A b { s with steps := k } stp ad vb av :=
  ⟨h.nd, h.tb, h.ta, h.m, h.cl, h.cs, h.rg, h.row, h.asks⟩
theorem mode_run (md : Mode) : decide (V.str md.str = V.str "running") = decide (md = .run) := by
  cases md with
  | run => decide +kernel
  | deep => decide +kernel
  | done => decide +kernel
  | fin => decide +kernel
def GoTo (K : PySem.W.Frag) (A : MA) (b : Bd) (s : MS) (H : Hp) (v : V) (Q : Hp → Prop) (E : XK) : Prop :=
  (∃ i : Int, v = .int i ∧ 0 ≤ i ∧ i ≤ 1000000 ∧ ∀ H', Off A.foot H H' → MAt (CM K) H' A b (runN b i.toNat s) → Q H') ∨ (badV v ∧ E (.ref (ga K "BadSteps")) none H)
def spGo (K : PySem.W.Frag) : Sp := fun vs H Q E => ∃ (A : MA) (b : Bd) (s : MS) (v : V), vs = [.ref A.m, v] ∧ MAt (CM K) H A b s ∧ WfB b ∧ WfM b s ∧ s.steps ≤ 1000000 ∧ GoTo K A b s H v (fun H' => Q .non H') E
abbrev NGo : List Str := ["self", "steps", "left", "registers", "cells", "found"]
theorem sc_go : FnScope NGo ["self", "steps"] (defScope (inClass (top 33) 6)) := ⟨rfl, rfl, rfl, by decide +kernel, rfl, by decide +kernel, by decide +kernel⟩
theorem ok_go (T : Txt K mg) : MethOk P w K mg base (L2.CX P w) 3 "go" ["self", "steps"] (spGo K) := by
  have D_need_step_count := ok_steps (P := P) (w := w) (base := base) T
  have D_inner_step := ok_inner (P := P) (w := w) (base := base) T
  have D_cross_over := ok_cross (P := P) (w := w) (base := base) T
  refine methX (i := 33) (n := 6) (q := "Machine.go") (N := NGo) T rfl sc_go (fun _ _ _ _ _ _ us hl => match us, hl with | [_, _], _ => rfl) (fun vs H Q E h => ?_) (fun cdv A outer s H vs Q E hr h => ?_)
  · obtain ⟨_, _, _, _, rfl, _⟩ := h
    rfl
  · obtain ⟨M, b, s, v, rfl, hm, hb, wf, hst, h⟩ := h
    have nd := sc_go.nd
    refine ⟨_, (pss_cons (ps_expr (pe_defX D_need_step_count (hr.mono (by decide)) rfl (passes_call (W := fun cls d _ H => E cls d H) (takes_of rfl rfl rfl rfl) (fun _ _ _ _ h => h)) (pa_cons (pv 1) pa_nil)))
    (PSs.nox (pss_cons (ps_par (i := 2) (j := 3) (by rfl) nd rfl rfl (by decide) rfl rfl (pa_cons (pv 1) (pa_cons (pe_fld (pv 0) rfl) pa_nil)) (by rfl))
    (pss_cons (ps_while PassesOwn.never (PW.pt (pw_and (pt_cmpR op_gt (pv 2) pe_int (nomark _)) (pw_and1 (pt_cmpR op_eq (pe_fld (pv 0) rfl) pe_str (nomark _))))) (pss_cons (ps_set (i := 2) nd rfl (Or.inl rfl) (pe_op op_sub (pv 2) pe_int))
      (pss_cons (ps_set (i := 4) nd rfl (Or.inl rfl) (pe_ix ix_list (pe_fld (pv 0) rfl) (pe_fld (pv 0) rfl) (fun _ _ => rfl)))
      (pss_cons (ps_set (i := 5) nd rfl (Or.inl rfl) (pe_def D_inner_step (hr.mono (by decide)) rfl (pa_cons (pv 4) (pa_cons (pv 3) (pa_cons (pe_fld (pv 0) rfl) pa_nil)))))
      (pss_one (ps_if (pt_cmpR op_ge (pv 5) pe_int (nomark _)) (pss_one (ps_fld (pv 0) (pv 5) rfl)) (pss_one (ps_if (pt_cmpR op_eq (pv 5) (pe_const rfl T.ENDS) (nomark _)) (pss_cons (ps_expr (pe_bm PySem.F.plainAttrs_list PySem.F.slot_list_append PySem.F.type_list_append mt_append (pe_fld (pv 0) rfl) (pa_cons (pe_tup (pa_cons pe_str (pa_cons (pe_fld (pv 0) rfl) pa_nil))) pa_nil)))
          (pss_one (ps_fld (pv 0) pe_str rfl))) (pss_one (ps_expr (pe_me (i := 1) (pv 0) T rfl D_cross_over (hr.mono (by decide)) pass0 (pa_cons (pe_ix ix_list (pv 4) (pe_fld (pv 0) rfl) (fun _ _ => rfl)) pa_nil))))))))))))
    (pss_cons (ps_fld (pv 0) (pe_op op_sub (pe_op op_add (pe_fld (pv 0) rfl) (pv 1)) (pv 2)) rfl)
    (pss_one (ps_fld (pv 0) (pe_ifExp (pt_cmpR op_eq (pe_fld (pv 0) rfl) pe_str (nomark _)) (pe_tup (pa_cons (pe_fld (pv 0) rfl) (pa_cons (pe_fld (pv 0) rfl) pa_nil))) pe_non) rfl))))))), ?_⟩
    rcases h with ⟨i, rfl, h0, h1, q⟩ | ⟨hbad, e⟩
    case inr => exact ⟨_, rfl, _, rfl, .inr ⟨hbad, e⟩⟩
    obtain ⟨n, rfl⟩ := Int.eq_ofNat_of_zero_le h0
    have h1' : n ≤ 1000000 := by omega
    rw [Int.toNat_natCast] at q
    refine ⟨_, rfl, _, rfl, .inl ⟨_, rfl, h0, h1, ?_⟩⟩
    obtain ⟨vb, av, hx⟩ := hm.mx
    refine ⟨_, rfl, _, rfl, _, _, _, _, _, rfl, hx.m, T.cl, T.noat 2 _ rfl, lk_regs, _, _, rfl, ?_⟩
    refine ⟨fun m σ H' => ∃ (sj : MS) (c f : Option V), m ≤ n ∧ σ = [some (.ref M.m), some (.int (n : Int)), some (.int (m : Int)), some (.ref M.rg), c, f] ∧ Off M.foot H H' ∧ MR (CM K) H' M b sj s.steps s.atD ∧ WfM b sj ∧ sj.steps + (m : Int) = s.steps + (n : Int) ∧ runN b n s = runN b m sj,
      ⟨n, s, none, none, Nat.le_refl n, rfl, Off.refl _ _, hm, wf, rfl, rfl⟩, ?_⟩
    clear hx
    clear vb av
    rintro m σ H' ⟨sj, c, f, hmn, rfl, off, hmr, wfj, hsum, hrun⟩
    obtain ⟨vb, av, hx⟩ := hmr.mx
    have leave : runN b n s = sj → tSeq (sFld K (tVar 0) (tOp (rI0 fun i j => V.int (i - j)) (tOp (rI0 fun i j => V.int (i + j)) (tFld K (tVar 0) "m_steps") (tVar 1)) (tVar 2)) "m_steps") (sFld K (tVar 0) (tIf (tTest (tOp rEq (tFld K (tVar 0) "m_state") (tC (.str "running")))) (tTup (tCons (tFld K (tVar 0) "m_room") (tCons (tFld K (tVar 0) "m_address") tNil))) (tC .non)) "at") { nx := fun _ H' => Q .non H', rt := Q } [some (.ref M.m), some (.int (n : Int)), some (.int (m : Int)), some (.ref M.rg), c, f] H' := by
      intro er
      rw [er] at q
      have es : s.steps + (n : Int) - (m : Int) = sj.steps := by omega
      refine ⟨_, rfl, _, _, _, _, _, rfl, hx.m, T.cl, T.noat 4 _ rfl, lk_steps, _, rfl, _, _, rfl, rfl, _, rfl, _, _, rfl, rfl, _, rfl, _, _, _, _, rfl, hx.m, T.cl, T.noat 4 _ rfl, mf_len, ?_⟩
      have hy := hx.setSteps (s.steps + (n : Int) - (m : Int))
      have q' : ∀ (H2 : Hp) (k : Int), k = sj.steps → Off M.foot H H2 → MR (CM K) H2 M b sj k sj.atD → Q .non H2 := fun H2 k e o m2 => q H2 o (by subst e; exact m2)
      refine ⟨_, rfl, _, _, _, _, _, rfl, hy.m, T.cl, T.noat 5 _ rfl, lk_state, rfl, _, rfl, ?_⟩
      rw [mode_run]
      refine ite_dec (fun hm => ?_) fun hm => ?_
      · refine ⟨_, rfl, _, _, _, _, _, rfl, hy.m, T.cl, T.noat 6 _ rfl, lk_room, _, rfl, _, _, _, _, _, rfl, hy.m, T.cl, T.noat 7 _ rfl, lk_addr, Nat.le_of_ble_eq_true rfl, fun p np => ?_⟩
        have hz := hy.same (same_new (o := .tup [.int sj.room, .int sj.addr]) np)
        refine ⟨_, rfl, _, _, _, _, rfl, hz.m, T.cl, T.noat 9 _ rfl, mf_len, ?_⟩
        refine q' _ _ es (((off.trans hx.offM).trans (Off.new np)).trans hz.offM) (hz.setAt ?_).mr
        unfold MS.atD
        rw [if_pos hm]
        exact TD.ofPair (p := (sj.room, sj.addr)) upd_same
      · refine ⟨_, rfl, _, _, _, _, rfl, hy.m, T.cl, T.noat 9 _ rfl, mf_len, ?_⟩
        refine q' _ _ es ((off.trans hx.offM).trans hy.offM) (hy.setAt ?_).mr
        unfold MS.atD
        rw [if_neg hm]
        exact .non
    refine ⟨_, rfl, _, _, rfl, rfl, _, rfl, ite_dec (fun c1 => ?_) fun c1 => ?_⟩
    case refine_2 =>
      refine iteF (leave ?_)
      have : m = 0 := by omega
      rw [hrun, this]
      rfl
    obtain ⟨k, rfl⟩ : ∃ k, m = k + 1 := ⟨m - 1, by omega⟩
    refine ⟨_, rfl, _, _, _, _, _, rfl, hx.m, T.cl, T.noat 5 _ rfl, lk_state, rfl, _, rfl, ?_⟩
    rw [mode_run]
    by_cases hm2 : sj.mode = .run
    case neg =>
      rw [decide_eq_false hm2]
      refine iteF (leave ?_)
      rw [hrun, runN_stop hm2]
    rw [decide_eq_true hm2]
    refine iteT ⟨fun σ' H' => ∃ (sj : MS) (c f : Option V), k ≤ n ∧ σ' = [some (.ref M.m), some (.int (n : Int)), some (.int (k : Int)), some (.ref M.rg), c, f] ∧ Off M.foot H H' ∧ MR (CM K) H' M b sj s.steps s.atD ∧ WfM b sj ∧ sj.steps + (k : Int) = s.steps + (n : Int) ∧ runN b n s = runN b k sj,
      fun σ' H' h => ⟨k, Nat.lt_succ_self k, h⟩, ?_⟩
    rw [runN_go hm2] at hrun
    have hroom := wfj.room
    have hn6 := hb.n6
    have hlt : sj.room.toNat < sj.cells.length := by
      rw [wfj.cl]
      omega
    obtain ⟨ca, hca, hil⟩ := hx.cell hlt
    have wf2 := step_wf hb wfj
    have hst1 : (fun i j => V.int (i - j)) (((k + 1 : Nat) : Int)) 1 = V.int (k : Int) := by
      show V.int (((k + 1 : Nat) : Int) - 1) = _
      congr 1
      omega
    refine ⟨_, rfl, _, _, rfl, rfl, ?_⟩
    rw [hst1]
    refine ⟨_, rfl, _, _, _, _, _, rfl, hx.m, T.cl, T.noat 1 _ rfl, lk_cells, _, rfl, _, _, _, _, _, rfl, hx.m, T.cl, T.noat 6 _ rfl, lk_room, _, _, _, _, rfl, rfl, SqL.of hx.cl, atI_of hroom.1 (by rw [List.getElem?_map, hca]; rfl), ?_⟩
    have P := apart hx.nd
    refine ⟨_, rfl, _, rfl, _, rfl, _, _, _, _, _, rfl, hx.m, T.cl, T.noat 7 _ rfl, lk_addr, ca, M.rg, sj.addr, sj.here, sj.regs, rfl, (Ne.symm (P.r3 ca (List.mem_of_getElem? hca))), hil, hx.rg, wfj.rl, wfj.rn, wfj.addr.1, ?_⟩
    have hy := (hx.setCell (c := (innerM sj.here sj.regs sj.addr).2.1) hca).setRegs (r := (innerM sj.here sj.regs sj.addr).2.2)
    have oy := (off.trans (hx.offCell (o := .lst ((innerM sj.here sj.regs sj.addr).2.1.map V.int)) hca)).trans ((hx.setCell (c := (innerM sj.here sj.regs sj.addr).2.1) hca).offRegs (o := .lst ((innerM sj.here sj.regs sj.addr).2.2.map V.int)))
    obtain ⟨d1, d2, d3⟩ := wfj.cs _ (here_mem wfj)
    obtain ⟨i1, i2, i3, i4, i5, i6, i7⟩ := inner_ok d3 d2 wfj.rn wfj.addr
    have wfp := wf_put wfj (c := (innerM sj.here sj.regs sj.addr).2.1) (r := (innerM sj.here sj.regs sj.addr).2.2) ⟨by rw [i1]; exact d1, by rw [i1]; exact d2, i3⟩ (i2.trans wfj.rl) i4
    have hsum2 : (step1 b sj).steps = (step1 b sj).steps := rfl
    have hs2 : sj.steps + 1 + (k : Int) = s.steps + (n : Int) := by omega
    have hrl := wfj.rowl
    have done : ∀ {H2 : Hp} {cc ff : Option V}, Off M.foot H H2 → MR (CM K) H2 M b (step1 b sj) s.steps s.atD → ∃ (sj : MS) (c f : Option V), k ≤ n ∧ [some (V.ref M.m), some (V.int (n : Int)), some (V.int (k : Int)), some (V.ref M.rg), cc, ff] = [some (.ref M.m), some (.int (n : Int)), some (.int (k : Int)), some (.ref M.rg), c, f] ∧ Off M.foot H H2 ∧ MR (CM K) H2 M b sj s.steps s.atD ∧ WfM b sj ∧ sj.steps + (k : Int) = s.steps + (n : Int) ∧ runN b n s = runN b k sj := by
      intro H2 cc ff o2 m2
      obtain ⟨vb2, av2, hx2⟩ := m2.mx
      exact ⟨{ step1 b sj with steps := sj.steps + 1 }, cc, ff, Nat.le_of_succ_le hmn, rfl, o2, (hx2.anySteps _).mr, wf2, hs2, hrun⟩
    unfold step1 at done
    refine ⟨_, rfl, _, _, rfl, rfl, _, rfl, ite_dec (fun c2 => ?_) fun c2 => ?_⟩
    · rw [if_pos c2] at done
      refine ⟨_, rfl, _, rfl, _, _, _, _, rfl, hy.m, T.cl, T.noat 7 _ rfl, mf_len, ?_⟩
      exact done (oy.trans hy.offM) (hy.setAddr _).mr
    rw [if_neg c2] at done
    refine ⟨_, rfl, rfl, _, rfl, ite_int (fun c3 => ?_) fun c3 => ?_⟩
    · rw [if_pos c3] at done
      obtain ⟨rws, hrw, trw⟩ := hy.row
      have lrw : rws.length = sj.row.length := trw.lenMap
      refine ⟨_, rfl, _, _, _, _, _, rfl, hy.m, T.cl, T.noat 3 _ rfl, lk_row, .inl ⟨rfl, _, SqL.of hrw⟩, _, rfl, _, _, _, _, _, rfl, hy.m, T.cl, T.noat 6 _ rfl, lk_room, Nat.le_of_ble_eq_true rfl, fun p np => ⟨_, _, _, rfl, rfl, (same_new np) _ _ hrw, ?_, ?_⟩⟩
      · rw [lrw]
        show sj.row.length < 16777216
        omega
      obtain ⟨hz, oz⟩ := hy.pushRow (x := "end") (l := [sj.room]) hrw np
      refine ⟨_, rfl, _, _, _, _, rfl, hz.m, T.cl, T.noat 5 _ rfl, mf_len, ?_⟩
      exact done ((oy.trans oz).trans hz.offM) (hz.setState .fin).mr
    · rw [if_neg c3] at done
      obtain ⟨j1, j2, j3⟩ := i7 (by omega)
      have hil2 : IL (upd (upd H' ca (.lst ((innerM sj.here sj.regs sj.addr).2.1.map V.int))) M.rg (.lst ((innerM sj.here sj.regs sj.addr).2.2.map V.int))) ca sj.here := by
        show (upd (upd H' ca _) M.rg _) ca = _
        rw [upd_ne (Ne.symm (P.r3 ca (List.mem_of_getElem? hca))), upd_same, j3]
      refine ⟨_, rfl, _, _, _, rfl, hy.m, lk_cross, _, rfl, _, rfl, _, _, _, _, _, rfl, hy.m, T.cl, T.noat 7 _ rfl, lk_addr, rd_ix hil2 wfj.addr.1 j1 ⟨M, b, _, s.steps, s.atD, _, rfl, hy.mr, hb, wfp, ?_, ?_, fun H3 o3 m3 => done (oy.trans o3) m3⟩⟩
      · show (sj.row.length : Int) ≤ 4000000
        omega
      · show sj.addr ≤ 9998
        omega
end K25
set_option maxHeartbeats 2000000
/-! Machine.__init__ -/
namespace K25
open PySem PySem.Spec PyProof.Rows L2 He
variable {P : Program} {w : World} {K : PySem.W.Frag} {mg : Str → Option Value} {base : Heap}
/-- from H0 to H: x's object may have changed, L is new -/
structure New (x : Addr) (H0 H : Hp) (L : List (Addr × HO)) : Prop where
  off : Off (fun p => p = x) H0 H
  nd : (L.map (·.1)).Nodup
  fr : ∀ q ∈ L, H0 q.1 = none ∧ H q.1 = some q.2
  x0 : ∃ C dx fs, H0 x = some (.ins C dx fs)
  x1 : H x ≠ none
section
variable {x p : Addr} {H0 H H1 : Hp} {L L' : List (Addr × HO)} {o u : HO}
theorem New.start (h : ∃ C dx fs, H x = some (.ins C dx fs)) : New x H H [] := ⟨Off.refl _ _, List.nodup_nil, fun q hq => (by cases hq), h, by
  obtain ⟨C, dx, fs, e⟩ := h
  rw [e]
  exact fun z => nomatch z⟩
theorem New.ne (h : New x H0 H L) {q : Addr × HO} (hq : q ∈ L) : q.1 ≠ x := fun z => by
  obtain ⟨C, dx, fs, e⟩ := h.x0
  have := (h.fr q hq).1
  rw [z, e] at this
  cases this
theorem New.fresh (h : New x H0 H L) (np : H p = none) : p ≠ x ∧ H0 p = none := by
  have n : p ≠ x := fun z => h.x1 (by rw [← z]; exact np)
  exact ⟨n, h.off.free np n⟩
theorem New.alloc (h : New x H0 H L) (np : H p = none) : New x H0 (upd H p o) ((p, o) :: L) := by
  obtain ⟨n, n0⟩ := h.fresh np
  refine ⟨h.off.trans (Off.new np), ?_, fun q hq => ?_, h.x0, ?_⟩
  · rw [List.map_cons]
    refine List.nodup_cons.mpr ⟨fun z => ?_, h.nd⟩
    obtain ⟨q, hq, e⟩ := List.mem_map.mp z
    have := (h.fr q hq).2
    rw [show q.1 = p from e, np] at this
    cases this
  · rcases List.mem_cons.mp hq with e | hq
    · rw [e]
      exact ⟨n0, upd_same⟩
    · obtain ⟨f1, f2⟩ := h.fr q hq
      exact ⟨f1, by rw [upd_ne (ne_of_none f2 np)]; exact f2⟩
  · rw [upd_ne (Ne.symm n)]
    exact h.x1
theorem New.set (h : New x H0 H ((p, o) :: L)) : New x H0 (upd H p u) ((p, u) :: L) := by
  have n := h.ne (q := (p, o)) List.mem_cons_self
  have n0 := (h.fr (p, o) List.mem_cons_self).1
  refine ⟨fun b v e k => ?_, h.nd, fun q hq => ?_, h.x0, ?_⟩
  · rw [upd_ne (ne_of_none e n0)]
    exact h.off b v e k
  · rcases List.mem_cons.mp hq with e | hq
    · rw [e]
      exact ⟨n0, upd_same⟩
    · obtain ⟨f1, f2⟩ := h.fr q (List.mem_cons_of_mem _ hq)
      have nq : q.1 ≠ p := fun z => (List.nodup_cons.mp h.nd).1 (List.mem_map.mpr ⟨q, hq, z⟩)
      exact ⟨f1, by rw [upd_ne nq]; exact f2⟩
  · rw [upd_ne (Ne.symm n)]
    exact h.x1
theorem New.store (h : New x H0 H L) : New x H0 (upd H x o) L := by
  refine ⟨fun b v e k => ?_, h.nd, fun q hq => ?_, h.x0, ?_⟩
  · by_cases z : b = x
    · obtain ⟨C, dx, fs, e0⟩ := h.x0
      obtain ⟨xs, rfl⟩ := k z
      rw [z, e0] at e
      cases e
    · rw [upd_ne z]
      exact h.off b v e k
  · obtain ⟨f1, f2⟩ := h.fr q hq
    exact ⟨f1, by rw [upd_ne (h.ne hq)]; exact f2⟩
  · rw [upd_same]
    exact fun z => nomatch z
theorem New.perm (h : New x H0 H L) (k : L.Perm L') : New x H0 H L' := ⟨h.off, (k.map _).nodup_iff.mp h.nd, fun q hq => h.fr q (k.mem_iff.mpr hq), h.x0, h.x1⟩
theorem New.same (h : New x H0 H L) (k : Same H H1) : New x H0 H1 L := ⟨fun b v e z => k _ _ (h.off b v e z), h.nd, fun q hq => ⟨(h.fr q hq).1, k _ _ (h.fr q hq).2⟩, h.x0, fun z => by
  cases e : H x with
  | none => exact h.x1 e
  | some o =>
    rw [k _ _ e] at z
    cases z⟩
theorem New.at (h : New x H0 H L) (hq : (p, o) ∈ L) : H p = some o := (h.fr _ hq).2
end
def cellsL : List Addr → List (List Int) → List (Addr × HO)
  | a :: as, c :: cs => (a, .lst (c.map V.int)) :: cellsL as cs
  | _, _ => []
theorem cellsL_snoc {a : Addr} {c : List Int} : ∀ {as : List Addr} {cs : List (List Int)}, as.length = cs.length → cellsL (as ++ [a]) (cs ++ [c]) = cellsL as cs ++ [(a, .lst (c.map V.int))]
  | [], [], _ => rfl
  | b :: as, d :: cs, h => by
    show (b, HO.lst (d.map V.int)) :: cellsL (as ++ [a]) (cs ++ [c]) = _
    rw [cellsL_snoc (Nat.succ.inj h)]
    rfl
  | [], _ :: _, h => (by cases h)
  | _ :: _, [], h => (by cases h)
theorem cellsL_mem : ∀ {as : List Addr} {cs : List (List Int)} {i : Nat} {a : Addr} {c : List Int}, as[i]? = some a → cs[i]? = some c → (a, HO.lst (c.map V.int)) ∈ cellsL as cs
  | [], _, i, a, c, h, _ => by simp at h
  | _ :: _, [], i, a, c, _, h => by simp at h
  | b :: as, d :: cs, 0, a, c, h1, h2 => by
    have e1 : b = a := by simpa using h1
    have e2 : d = c := by simpa using h2
    rw [e1, e2]
    exact List.mem_cons_self
  | b :: as, d :: cs, i + 1, a, c, h1, h2 => List.mem_cons_of_mem _ (cellsL_mem (i := i) (by simpa using h1) (by simpa using h2))
theorem cellsL_fst : ∀ {as : List Addr} {cs : List (List Int)}, as.length = cs.length → (cellsL as cs).map (·.1) = as
  | [], [], _ => rfl
  | b :: as, d :: cs, h => by
    show b :: (cellsL as cs).map (·.1) = _
    rw [cellsL_fst (Nat.succ.inj h)]
  | [], _ :: _, h => (by cases h)
  | _ :: _, [], h => (by cases h)
/-- one more list of cells -/
theorem New.cells {x D l : Addr} {H0 H : Hp} {L : List (Addr × HO)} {as : List Addr} {rows : List (List Int)} {i : Nat} {c : List Int} (h : New x H0 H ((D, .lst (as.map V.ref)) :: (cellsL as (rows.take i) ++ L))) (hl : as.length = i) (hc : rows[i]? = some c) (nl : H l = none) :
    New x H0 (upd (upd H l (.lst (c.map V.int))) D (.lst (as.map V.ref ++ [V.ref l]))) ((D, .lst ((as ++ [l]).map V.ref)) :: (cellsL (as ++ [l]) (rows.take (i + 1)) ++ L)) := by
  have hi := (List.getElem?_eq_some_iff.mp hc).1
  have e : rows.take (i + 1) = rows.take i ++ [c] := by rw [List.take_succ, hc]; rfl
  rw [e, cellsL_snoc (by rw [List.length_take, hl]; omega), List.map_append]
  refine (New.set (o := .lst (as.map V.ref)) ((h.alloc (o := .lst (c.map V.int)) nl).perm ?_))
  refine (List.Perm.swap _ _ _).trans (.cons _ ?_)
  rw [List.append_assoc]
  exact List.perm_middle.symm
/-! ### the fields one by one -/
section
variable {vb av : V} {cl rg rw_ ak : Addr} {st rm ad : Int} {md : Str}
def gf1 (vb : V) : List (Str × V) := [("m_board", vb)]
def gf2 (vb : V) (cl : Addr) : List (Str × V) := [("m_board", vb), ("m_cells", .ref cl)]
def gf3 (vb : V) (cl : Addr) (rg : Addr) : List (Str × V) := [("m_board", vb), ("m_cells", .ref cl), ("m_registers", .ref rg)]
def gf4 (vb : V) (cl : Addr) (rg : Addr) (rw_ : Addr) : List (Str × V) := [("m_board", vb), ("m_cells", .ref cl), ("m_registers", .ref rg), ("m_row", .ref rw_)]
def gf5 (vb : V) (cl : Addr) (rg : Addr) (rw_ : Addr) (st : Int) : List (Str × V) := [("m_board", vb), ("m_cells", .ref cl), ("m_registers", .ref rg), ("m_row", .ref rw_), ("m_steps", .int st)]
def gf6 (vb : V) (cl : Addr) (rg : Addr) (rw_ : Addr) (st : Int) (md : Str) : List (Str × V) := [("m_board", vb), ("m_cells", .ref cl), ("m_registers", .ref rg), ("m_row", .ref rw_), ("m_steps", .int st), ("m_state", .str md)]
def gf7 (vb : V) (cl : Addr) (rg : Addr) (rw_ : Addr) (st : Int) (md : Str) (rm : Int) : List (Str × V) := [("m_board", vb), ("m_cells", .ref cl), ("m_registers", .ref rg), ("m_row", .ref rw_), ("m_steps", .int st), ("m_state", .str md), ("m_room", .int rm)]
def gf8 (vb : V) (cl : Addr) (rg : Addr) (rw_ : Addr) (st : Int) (md : Str) (rm : Int) (ad : Int) : List (Str × V) := [("m_board", vb), ("m_cells", .ref cl), ("m_registers", .ref rg), ("m_row", .ref rw_), ("m_steps", .int st), ("m_state", .str md), ("m_room", .int rm), ("m_address", .int ad)]
def gf9 (vb : V) (cl : Addr) (rg : Addr) (rw_ : Addr) (st : Int) (md : Str) (rm : Int) (ad : Int) (ak : Addr) : List (Str × V) := [("m_board", vb), ("m_cells", .ref cl), ("m_registers", .ref rg), ("m_row", .ref rw_), ("m_steps", .int st), ("m_state", .str md), ("m_room", .int rm), ("m_address", .int ad), ("m_asks", .ref ak)]
theorem ad0 : putF "m_board" (vb) [] = gf1 vb := by kernel_rfl
theorem ad1 : putF "m_cells" (.ref cl) (gf1 vb) = gf2 vb cl := by kernel_rfl
theorem ad2 : putF "m_registers" (.ref rg) (gf2 vb cl) = gf3 vb cl rg := by kernel_rfl
theorem ad3 : putF "m_row" (.ref rw_) (gf3 vb cl rg) = gf4 vb cl rg rw_ := by kernel_rfl
theorem ad4 : putF "m_steps" (.int st) (gf4 vb cl rg rw_) = gf5 vb cl rg rw_ st := by kernel_rfl
theorem ad5 : putF "m_state" (.str md) (gf5 vb cl rg rw_ st) = gf6 vb cl rg rw_ st md := by kernel_rfl
theorem ad6 : putF "m_room" (.int rm) (gf6 vb cl rg rw_ st md) = gf7 vb cl rg rw_ st md rm := by kernel_rfl
theorem ad7 : putF "m_address" (.int ad) (gf7 vb cl rg rw_ st md rm) = gf8 vb cl rg rw_ st md rm ad := by kernel_rfl
theorem ad8 : putF "m_asks" (.ref ak) (gf8 vb cl rg rw_ st md rm ad) = gf9 vb cl rg rw_ st md rm ad ak := by kernel_rfl
theorem ad9 : putF "at" (av) (gf9 vb cl rg rw_ st md rm ad ak) = mf vb cl rg rw_ st md rm ad ak av := by kernel_rfl
theorem lk_ad : (gf9 vb cl rg rw_ st md rm ad ak).lookup ("m_address" : Str) = some (.int ad) := by kernel_rfl
end
/-- a new machine at A, in state s, from New -/
theorem mx_new {C x dx : Addr} {H0 H : Hp} {b : Bd} {s : MS} {cl rg rw_ ak : Addr} {cas : List Addr} {vb av : V} {rws aks : List V} {L : List (Addr × HO)}
    (N : New x H0 H L) (sub : (L.map (·.1)).Perm (cl :: rg :: rw_ :: ak :: cas) ∨ ∃ M, (L.map (·.1)).Perm (M ++ (cl :: rg :: rw_ :: ak :: cas)))
    (hx : H x = some (.ins C dx (mf vb cl rg rw_ s.steps s.mode.str s.room s.addr ak av))) (tb : TD H vb (bdD b)) (ta : TD H av s.atD)
    (h1 : (cl, .lst (cas.map V.ref)) ∈ L) (h2 : ∀ q ∈ cellsL cas s.cells, q ∈ L) (hl : cas.length = s.cells.length) (h3 : (rg, .lst (s.regs.map V.int)) ∈ L) (h4 : (rw_, .lst rws) ∈ L) (t4 : TDs H rws s.rowD) (h5 : (ak, .lst aks) ∈ L) (t5 : TDs H aks s.asksD) :
    MAt C H ⟨x, dx, cl, rg, rw_, ak, cas⟩ b s ∧ ∀ p, p ∈ (MA.mk x dx cl rg rw_ ak cas).lists → H0 p = none := by
  have sub' : ∃ M, (L.map (·.1)).Perm (M ++ (cl :: rg :: rw_ :: ak :: cas)) := by
    rcases sub with h | h
    · exact ⟨[], h⟩
    · exact h
  obtain ⟨M, sub'⟩ := sub'
  refine ⟨⟨?_, ⟨vb, av, tb, ta, hx⟩, N.at h1, ⟨hl, fun i ca c e1 e2 => N.at (h2 _ (cellsL_mem e1 e2))⟩, N.at h3, ⟨rws, N.at h4, t4⟩, ⟨aks, N.at h5, t5⟩⟩, fun p hp => ?_⟩
  · have := sub'.nodup_iff.mp N.nd
    exact (List.nodup_append.mp this).2.1
  · have m : p ∈ L.map (·.1) := sub'.mem_iff.mpr (List.mem_append_right _ hp)
    obtain ⟨q, hq, e⟩ := List.mem_map.mp m
    rw [← e]
    exact (N.fr q hq).1
def spInit (K : PySem.W.Frag) : Sp := fun vs H Q _ => ∃ (x dx : Addr) (vb : V) (b : Bd) (n : Int), vs = [.ref x, vb, .int n] ∧ H x = some (.ins (CM K) dx []) ∧ TD H vb (bdD b) ∧ WfB b ∧ Num n ∧
  ∀ (H' : Hp) (A : MA), A.m = x → A.dx = dx → (∀ p ∈ A.lists, H p = none) → Off (fun p => p = x) H H' → MAt (CM K) H' A b (initS b n) → Q .non H'
abbrev NI : List Str := ["self", "board", "number", "section"]
theorem sc_init : FnScope NI ["self", "board", "number"] (defScope (inClass (top 33) 0)) := ⟨rfl, rfl, rfl, by decide +kernel, rfl, by decide +kernel, by decide +kernel⟩
theorem rep9 : (List.replicate 9 [V.int 0]).flatten = (List.replicate 9 (0 : Int)).map V.int := rfl
theorem ok_init (T : Txt K mg) : MethOk P w K mg base CX0 7 "__init__" ["self", "board", "number"] (spInit K) := by
  have D_need_board := ok_need_board (P := P) (w := w) (base := base) T
  have D_need_number := ok_need_number (P := P) (w := w) (base := base) T
  refine meth0 (i := 32) (n := 0) (q := "Machine.__init__") (N := NI) T rfl sc_init (fun _ _ _ _ _ _ us hl => match us, hl with | [_, _, _], _ => rfl) (fun vs H Q E h => ?_) (fun cdv A outer s H vs Q E hr h => ?_)
  · obtain ⟨_, _, _, _, _, rfl, _⟩ := h
    rfl
  · obtain ⟨x, dx, vb, b, n, rfl, hx, tb, wf, hn, q⟩ := h
    have nd := sc_init.nd
    refine ⟨_, (pss_cons (ps_expr (pe_def D_need_board (hr.mono (by decide)) rfl (pa_cons (pv 1) pa_nil)))
    (pss_cons (ps_expr (pe_def D_need_number (hr.mono (by decide)) rfl (pa_cons (pv 2) pa_nil)))
    (pss_cons (ps_fld (pv 0) (pv 1) rfl)
    (pss_cons (ps_fld (pv 0) (pe_lc (own := [("section", 3)]) rfl nd (pi_tup (pe_ixC ix_tup (pv 1) pe_int (fun _ _ => rfl))) (blkOk_by (N := ["self", "board", "number", "section"]) (sc := defScope (inClass (top 33) 0)) (by decide +kernel)) (fun _ _ _ _ _ => by exact (pg_name (i := 3) nd rfl (Or.inl rfl))) (fun _ _ _ _ _ => by exact pts_nil) (fun _ _ _ _ _ => by exact (pe_cT (T := "list") (cListK (K := K) rfl) rfl T.f_list (by decide +kernel) (pe_ixC (ixTK (K := K) rfl) (pv 3) pe_int (fun _ _ => rfl))))) rfl)
    (pss_cons (ps_fld (pv 0) (pe_op op_cat (pe_lst (pa_cons (pv 2) pa_nil)) (pe_op op_rep (pe_lst (pa_cons pe_int pa_nil)) pe_int)) rfl)
    (pss_cons (ps_fld (pv 0) (pe_lst (pa_cons (pe_tup (pa_cons pe_str (pa_cons (pv 2) pa_nil))) pa_nil)) rfl)
    (pss_cons (ps_fld (pv 0) pe_int rfl)
    (pss_cons (ps_fld (pv 0) pe_str rfl)
    (pss_cons (ps_fld (pv 0) pe_int rfl)
    (pss_cons (ps_fld (pv 0) (pe_ixC ix_tup (pe_ixC ix_tup (pe_ixC ix_tup (pe_ixC ix_tup (pv 1) pe_int (fun _ _ => rfl)) pe_int (fun _ _ => rfl)) pe_int (fun _ _ => rfl)) pe_int (fun _ _ => rfl)) rfl)
    (pss_cons (ps_fld (pv 0) (pe_lst pa_nil) rfl)
    (pss_one (ps_fld (pv 0) (pe_tup (pa_cons pe_int (pa_cons (pe_fld (pv 0) rfl) pa_nil))) rfl))))))))))))), ?_⟩
    have n1 := wf.n1
    have n6 := wf.n6
    have N0 := New.start (x := x) (H := H) ⟨_, _, _, hx⟩
    refine ⟨_, rfl, vb, b, rfl, tb, wf, fun H1 k1 => ⟨_, rfl, n, rfl, hn, ?_⟩⟩
    have N1 := N0.same k1
    have x1 := k1 _ _ hx
    clear k1 hx N0
    -- m_board
    refine ⟨_, rfl, _, rfl, _, _, _, _, rfl, x1, T.cl, T.noat 0 _ rfl, Nat.le_of_ble_eq_true rfl, ?_⟩
    rw [ad0]
    have N2 := N1.store (o := .ins (CM K) dx (gf1 vb))
    have x2 : (upd H1 x (.ins (CM K) dx (gf1 vb))) x = _ := upd_same
    generalize upd H1 x (.ins (CM K) dx (gf1 vb)) = H2 at N2 x2 ⊢
    clear N1 x1 H1
    -- m_cells
    have tb2 := tb.kt N2.off.kt
    obtain ⟨ba, wb, sb, wxs, sxs, rfl, ha, hw, tw, hs, ts⟩ := tb2.bd
    have ls := ts.lenMap
    refine ⟨_, rfl, rd_ixT ha rfl ⟨sb, rfl, ⟨_, SqT.of hs⟩, fun D nD => lc_it (walk_tup (xs := sxs)) (fun i H' => Same H2 H' ∧ ∃ cas : List Addr, cas.length = i ∧ New x H H' ((D, .lst (cas.map V.ref)) :: (cellsL cas ((b.secs.map (·.1)).take i) ++ []))) ⟨same_new nD, [], rfl, N2.alloc nD⟩ (fun i H' _ h => SqT.of (sm_tup h.1 hs)) ?_ ?_⟩⟩
    · rintro i y H3 H4 hi ⟨k3, cas, hl, N3⟩ ⟨rfl, hy⟩
      obtain ⟨sec, hsec, tsec⟩ := ts.atMap hy
      obtain ⟨sa, sb1, sc1, rfl, e1, e2, e3⟩ := (sm_td k3 tsec).sec
      refine ⟨rfl, _, rfl, rd_ixT e1 rfl (rd_listT e2 fun l nl => ⟨_, ?_, ?_, ?_, cas ++ [l], ?_, New.cells N3 hl (by rw [List.getElem?_map, hsec]; rfl) nl⟩)⟩
      · exact (N3.alloc (o := .lst (sec.1.map V.int)) nl).at (List.mem_cons_of_mem _ List.mem_cons_self)
      · rw [List.length_map]
        show cas.length < 16777216
        omega
      · refine fun c u e => ?_
        have nD' : c ≠ D := ne_of_none e nD
        rw [upd_ne nD', upd_ne (ne_of_none (k3 _ _ e) nl)]
        exact k3 _ _ e
      · rw [List.length_append, hl]
        rfl
    rintro H3 ⟨k3, cas, hl, N3⟩
    have e3 : (b.secs.map (·.1)).take sxs.length = b.secs.map (·.1) := List.take_of_length_le (by rw [List.length_map, ls]; exact Nat.le_refl _)
    rw [e3] at N3
    have x3 := k3 _ _ x2
    clear k3 x2 N2 tw ts hs hw ha tb2
    refine ⟨_, rfl, _, _, _, _, rfl, x3, T.cl, T.noat 1 _ rfl, Nat.le_of_ble_eq_true rfl, ?_⟩
    rw [ad1]
    have N4 := N3.store (o := .ins (CM K) dx (gf2 (.ref ba) D))
    have x4 : (upd H3 x (.ins (CM K) dx (gf2 (.ref ba) D))) x = _ := upd_same
    generalize upd H3 x (.ins (CM K) dx (gf2 (.ref ba) D)) = H4 at N4 x4 ⊢
    clear N3 x3
    -- m_registers
    refine ⟨_, rfl, Nat.le_of_ble_eq_true rfl, fun p1 np1 => ⟨Nat.le_of_ble_eq_true rfl, fun p2 np2 => ?_⟩⟩
    have N5 := (N4.alloc (o := .lst [.int n]) np1).alloc (o := .lst [.int 0]) np2
    have x5 := (same_new (o := .lst [.int 0]) np2) _ _ ((same_new (o := .lst [.int n]) np1) _ _ x4)
    generalize upd (upd H4 p1 (.lst [.int n])) p2 (.lst [.int 0]) = H5 at N5 x5 ⊢
    clear N4 x4 np1 np2
    refine ⟨_, _, _, rfl, rfl, N5.at List.mem_cons_self, by decide, by decide, Nat.le_of_ble_eq_true rfl, fun p3 np3 => ?_⟩
    have N6 := N5.alloc (o := .lst ((List.replicate 9 (0 : Int)).map V.int)) np3
    have x6 := (same_new (o := .lst ((List.replicate 9 (0 : Int)).map V.int)) np3) _ _ x5
    show rCat _ _ (upd H5 p3 (.lst ((List.replicate 9 (0 : Int)).map V.int))) _
    generalize upd H5 p3 (.lst ((List.replicate 9 (0 : Int)).map V.int)) = H6 at N6 x6 ⊢
    clear N5 x5 np3
    refine ⟨_, _, _, _, rfl, rfl, N6.at (List.mem_cons_of_mem _ (List.mem_cons_of_mem _ List.mem_cons_self)), N6.at List.mem_cons_self, Nat.le_of_ble_eq_true rfl, fun p4 np4 => ?_⟩
    have N7 := N6.alloc (o := .lst ((n :: List.replicate 9 (0 : Int)).map V.int)) np4
    have x7 := (same_new (o := .lst ((n :: List.replicate 9 (0 : Int)).map V.int)) np4) _ _ x6
    refine ⟨_, rfl, _, _, _, _, rfl, x7, T.cl, T.noat 2 _ rfl, Nat.le_of_ble_eq_true rfl, ?_⟩
    rw [ad2]
    have N8 := N7.store (o := .ins (CM K) dx (gf3 (.ref ba) D p4))
    have x8 : (upd (upd H6 p4 (.lst ((n :: List.replicate 9 (0 : Int)).map V.int))) x (.ins (CM K) dx (gf3 (.ref ba) D p4))) x = _ := upd_same
    show tSeq _ _ _ _ (upd (upd H6 p4 (.lst ((n :: List.replicate 9 (0 : Int)).map V.int))) x (.ins (CM K) dx (gf3 (.ref ba) D p4)))
    generalize upd (upd H6 p4 (.lst ((n :: List.replicate 9 (0 : Int)).map V.int))) x (.ins (CM K) dx (gf3 (.ref ba) D p4)) = H8 at N8 x8 ⊢
    clear N7 x7 np4 N6 x6
    -- m_row
    refine ⟨_, rfl, Nat.le_of_ble_eq_true rfl, fun t nt => ⟨Nat.le_of_ble_eq_true rfl, fun r nr => ?_⟩⟩
    have N9 := (N8.alloc (o := .tup [.str "start", .int n]) nt).alloc (o := .lst [.ref t]) nr
    have x9 := (same_new (o := .lst [.ref t]) nr) _ _ ((same_new (o := .tup [.str "start", .int n]) nt) _ _ x8)
    refine ⟨_, rfl, _, _, _, _, rfl, x9, T.cl, T.noat 3 _ rfl, Nat.le_of_ble_eq_true rfl, ?_⟩
    rw [ad3]
    refine ⟨_, rfl, _, _, _, _, rfl, upd_same, T.cl, T.noat 4 _ rfl, Nat.le_of_ble_eq_true rfl, ?_⟩
    rw [ad4]
    refine ⟨_, rfl, _, _, _, _, rfl, upd_same, T.cl, T.noat 5 _ rfl, Nat.le_of_ble_eq_true rfl, ?_⟩
    rw [ad5]
    refine ⟨_, rfl, _, _, _, _, rfl, upd_same, T.cl, T.noat 6 _ rfl, Nat.le_of_ble_eq_true rfl, ?_⟩
    rw [ad6]
    have N10 := (((N9.store (o := .ins (CM K) dx (gf4 (.ref ba) D p4 r))).store (o := .ins (CM K) dx (gf5 (.ref ba) D p4 r 0))).store (o := .ins (CM K) dx (gf6 (.ref ba) D p4 r 0 "running"))).store (o := .ins (CM K) dx (gf7 (.ref ba) D p4 r 0 "running" 0))
    have x10 := upd_same (H := upd (upd (upd (upd (upd H8 t (.tup [.str "start", .int n])) r (.lst [.ref t])) x (.ins (CM K) dx (gf4 (.ref ba) D p4 r))) x (.ins (CM K) dx (gf5 (.ref ba) D p4 r 0))) x (.ins (CM K) dx (gf6 (.ref ba) D p4 r 0 "running"))) (a := x) (o := .ins (CM K) dx (gf7 (.ref ba) D p4 r 0 "running" 0))
    generalize upd (upd (upd (upd (upd (upd H8 t (.tup [.str "start", .int n])) r (.lst [.ref t])) x (.ins (CM K) dx (gf4 (.ref ba) D p4 r))) x (.ins (CM K) dx (gf5 (.ref ba) D p4 r 0))) x (.ins (CM K) dx (gf6 (.ref ba) D p4 r 0 "running"))) x (.ins (CM K) dx (gf7 (.ref ba) D p4 r 0 "running" 0)) = H10 at N10 x10 ⊢
    clear N9 x9 nt nr N8 x8
    -- m_address
    have tb3 := tb.kt N10.off.kt
    obtain ⟨ba', wb', sb', wxs', sxs', e, ha, hw, tw, hs, ts⟩ := tb3.bd
    cases e
    have s0 : b.secs[0]? = some b.secs[0] := List.getElem?_eq_getElem (by omega)
    obtain ⟨sa, sb1, sc1, e1, e2, e3, e4⟩ := ts.sec (i := 0) (Int.le_refl 0) s0
    have m0 := List.mem_of_getElem? s0
    have he := wf.ents _ m0
    have ea : (initS b n).addr = g b.secs[0].2 0 := by
      show g (b.secs.getD 0 ([], [])).2 0 = _
      rw [List.getD_eq_getElem?_getD, s0]
      rfl
    refine ⟨_, rfl, rd_ixT ha rfl (rd_ixT hs e1 (rd_ixT e2 rfl (rd_ixT e4 (g_at (Int.le_refl 0) (by omega)) ⟨_, rfl, _, _, _, _, rfl, x10, T.cl, T.noat 7 _ rfl, Nat.le_of_ble_eq_true rfl, ?_⟩)))⟩
    rw [ad7]
    -- m_asks
    refine ⟨Nat.le_of_ble_eq_true rfl, fun k nk => ⟨_, rfl, _, _, _, _, rfl, (same_new nk) _ _ upd_same, T.cl, T.noat 8 _ rfl, Nat.le_of_ble_eq_true rfl, ?_⟩⟩
    rw [ad8]
    -- at
    refine ⟨_, rfl, _, _, _, _, _, rfl, upd_same, T.cl, T.noat 7 _ rfl, lk_ad, Nat.le_of_ble_eq_true rfl, fun u nu => ⟨_, rfl, _, _, _, _, rfl, (same_new nu) _ _ upd_same, T.cl, T.noat 9 _ rfl, Nat.le_of_ble_eq_true rfl, ?_⟩⟩
    rw [ad9]
    have N11 := ((((N10.store (o := .ins (CM K) dx (gf8 (.ref ba) D p4 r 0 "running" 0 (g b.secs[0].2 0)))).alloc (o := .lst []) nk).store (o := .ins (CM K) dx (gf9 (.ref ba) D p4 r 0 "running" 0 (g b.secs[0].2 0) k))).alloc (o := .tup [.int 0, .int (g b.secs[0].2 0)]) nu).store (o := .ins (CM K) dx (mf (.ref ba) D p4 r 0 "running" 0 (g b.secs[0].2 0) k (.ref u)))
    have pm : ([u, k, r, t, p4, p3, p2, p1, D] ++ cas).Perm ([u, t, p3, p2, p1] ++ D :: p4 :: r :: k :: cas) := by
      refine List.perm_iff_count.mpr fun a => ?_
      simp only [List.count_append, List.count_cons, List.count_nil]
      omega
    have cf : (cellsL cas (b.secs.map (·.1))).map (·.1) = cas := cellsL_fst (by rw [hl, ls, List.length_map])
    obtain ⟨M1, M2⟩ := mx_new (C := CM K) (dx := dx) (b := b) (s := initS b n) (cl := D) (rg := p4) (rw_ := r) (ak := k) (cas := cas) (vb := .ref ba) (av := .ref u) (rws := [.ref t]) (aks := []) N11 (.inr ⟨[u, t, p3, p2, p1], by simp only [List.map_cons, List.append_nil, cf]; exact pm⟩) (by rw [upd_same, ea]; rfl) (tb.kt N11.off.kt) (by
        show TD _ _ (if Mode.run = Mode.run then _ else _)
        rw [if_pos rfl, ea]
        exact TD.ofPair (p := (0, g b.secs[0].2 0)) (N11.at List.mem_cons_self))
      (by simp) (fun q hq => by simp [hq, show (initS b n).cells = b.secs.map (·.1) from rfl] at hq ⊢; simp [hq]) (by rw [hl, ls]; exact (List.length_map ..).symm) (by simp [initS]) (by simp) (TDs.one (.tup (N11.at (by simp)) (.cons (.str _) (TDs.ofInts [n])))) (by simp) .nil
    exact q _ _ rfl rfl M2 N11.off M1
end K25
set_option maxHeartbeats 2000000
/-! Machine: cells, put, moment, copy; machine_row -/
namespace K25
open PySem PySem.Spec PyProof.Rows L2 He
variable {P : Program} {w : World} {K : PySem.W.Frag} {mg : Str → Option Value} {base : Heap}
theorem MX.off {C : Addr} {H H1 : Hp} {A : MA} {b : Bd} {s : MS} {stp : Int} {ad : PyData} {vb av : V} {F : Addr → Prop} (h : MX C H A b s stp ad vb av) (k : Off F H H1) (n : ∀ p, A.foot p → ¬ F p) : MX C H1 A b s stp ad vb av := by
  have kt := k.kt
  have at_ : ∀ {p : Addr} {o : HO}, A.foot p → H p = some o → H1 p = some o := fun hp e => k.at e (n _ hp)
  obtain ⟨vs, r1, r2⟩ := h.row
  obtain ⟨us, a1, a2⟩ := h.asks
  refine ⟨h.nd, h.tb.kt kt, h.ta.kt kt, at_ (.inl rfl) h.m, at_ (.inr List.mem_cons_self) h.cl, ⟨h.cs.1, fun i ca c e1 e2 => ?_⟩, at_ (.inr (List.mem_cons_of_mem _ List.mem_cons_self)) h.rg,
    ⟨vs, at_ (.inr (List.mem_cons_of_mem _ (List.mem_cons_of_mem _ List.mem_cons_self))) r1, r2.kt kt⟩, ⟨us, at_ (.inr (List.mem_cons_of_mem _ (List.mem_cons_of_mem _ (List.mem_cons_of_mem _ List.mem_cons_self)))) a1, a2.kt kt⟩⟩
  refine at_ (.inr ?_) (h.cs.2 i ca c e1 e2)
  exact List.mem_cons_of_mem _ (List.mem_cons_of_mem _ (List.mem_cons_of_mem _ (List.mem_cons_of_mem _ (List.mem_of_getElem? e1))))
theorem same_none {H H1 : Hp} (k : Same H H1) {p : Addr} (h : H1 p = none) : H p = none := by
  cases e : H p with
  | none => rfl
  | some o =>
    rw [k _ _ e] at h
    cases h
/-- Machine(board, number): what is asked -/
theorem mk_rd {H1 : Hp} {vb : V} {b : Bd} {n : Int} {x dx : Addr} {Q : VK} {E : XK} (nx : H1 x = none) (ndx : H1 dx = none) (ne : dx ≠ x) (tb : TD H1 vb (bdD b)) (wf : WfB b) (hn : Num n)
    (q : ∀ (H' : Hp) (A : MA), A.m = x → (∀ p, A.foot p → H1 p = none) → Same H1 H' → MAt (CM K) H' A b (initS b n) → Q .non H') :
    spInit K (.ref x :: ([vb, .int n] ++ [])) (upd (upd H1 dx (.own x)) x (.ins (CM K) dx [])) Q E := by
  have nx' : (upd H1 dx (.own x)) x = none := by
    rw [upd_ne (Ne.symm ne)]
    exact nx
  have k : Same H1 (upd (upd H1 dx (.own x)) x (.ins (CM K) dx [])) := sm_tr (same_new ndx) (same_new nx')
  refine ⟨x, dx, vb, b, n, rfl, upd_same, sm_td k tb, wf, hn, fun H' A e1 e2 fr off m => q H' A e1 (fun p hp => ?_) (fun c o e => ?_) m⟩
  · rcases hp with e | hp
    · rw [e, e1]
      exact nx
    · exact same_none k (fr p hp)
  · exact off.at (k _ _ e) (ne_of_none e nx)
/-! ### cells, put -/
def spCells (K : PySem.W.Frag) : Sp := fun vs H Q _ => ∃ (A : MA) (b : Bd) (s : MS) (stp : Int) (ad : PyData) (r : Int), vs = [.ref A.m, .int r] ∧ MR (CM K) H A b s stp ad ∧ 0 ≤ r ∧ r < (s.cells.length : Int) ∧ ∀ p : Addr, H p = none → Q (.ref p) (upd H p (.tup ((s.cells.getD r.toNat []).map V.int)))
theorem sc_cells : FnScope ["self", "room"] ["self", "room"] (defScope (inClass (top 33) 8)) := ⟨rfl, rfl, rfl, by decide +kernel, rfl, by decide +kernel, by decide +kernel⟩
theorem MX.clen {C : Addr} {H : Hp} {A : MA} {b : Bd} {s : MS} {stp : Int} {ad : PyData} {vb av : V} (h : MX C H A b s stp ad vb av) : ((A.cas.map V.ref).length : Int) = s.cells.length := by
  rw [List.length_map, h.cs.1]
theorem ok_cells (T : Txt K mg) : MethOk P w K mg base CX0 3 "cells" ["self", "room"] (spCells K) := by
  have D_need_room_number := ok_need_room (P := P) (w := w) (base := base) T
  refine meth0 (i := 35) (n := 8) (q := "Machine.cells") (N := ["self", "room"]) T rfl sc_cells (fun _ _ _ _ _ _ us hl => match us, hl with | [_, _], _ => rfl) (fun vs H Q E h => ?_) (fun cdv A outer s H vs Q E hr h => ?_)
  · obtain ⟨_, _, _, _, _, _, rfl, _⟩ := h
    rfl
  · obtain ⟨M, b, s, stp, ad, r, rfl, hm, h0, h1, q⟩ := h
    obtain ⟨vb, av, hx⟩ := hm.mx
    obtain ⟨ca, hca, hil⟩ := hx.cell (r := r.toNat) (by omega)
    refine ⟨_, (pss_cons (ps_expr (pe_def D_need_room_number (hr.mono (by decide)) rfl (pa_cons (pv 1) (pa_cons (pe_cB (id := "len") call_len (by rfl) T.f_len PySem.boot_len (pe_fld (pv 0) rfl)) pa_nil))))
    (pss_one (ps_ret (pe_cT (T := "tuple") call_tuple rfl T.f_tuple (by decide +kernel) (pe_ix ix_list (pe_fld (pv 0) rfl) (pv 1) (fun _ _ => rfl)))))), ?_⟩
    exact ⟨_, rfl, _, rfl, _, _, _, _, _, rfl, hx.m, T.cl, T.noat 1 _ rfl, lk_cells, rd_lenL hx.cl ⟨r, _, rfl, h0, by rw [hx.clen]; exact h1, _, rfl, _, _, _, _, _, rfl, hx.m, T.cl, T.noat 1 _ rfl, lk_cells, _, rfl, _, _, _, _, rfl, rfl, SqL.of hx.cl, atI_of h0 (by rw [List.getElem?_map, hca]; rfl), rd_tupL hil q⟩⟩
def spPut (K : PySem.W.Frag) : Sp := fun vs H Q _ => ∃ (A : MA) (b : Bd) (s : MS) (stp : Int) (ad : PyData) (r a n : Int), vs = [.ref A.m, .int r, .int a, .int n] ∧ MR (CM K) H A b s stp ad ∧ 0 ≤ r ∧ r < (s.cells.length : Int) ∧ 0 ≤ a ∧ a < ((s.cells.getD r.toNat []).length : Int) ∧ Num n ∧
  ∀ H', Off A.foot H H' → MR (CM K) H' A b { s with cells := s.cells.set r.toNat ((s.cells.getD r.toNat []).set a.toNat n) } stp ad → Q .non H'
abbrev NP : List Str := ["self", "room", "address", "number", "row"]
theorem sc_put : FnScope NP ["self", "room", "address", "number"] (defScope (inClass (top 33) 9)) := ⟨rfl, rfl, rfl, by decide +kernel, rfl, by decide +kernel, by decide +kernel⟩
theorem ok_put (T : Txt K mg) : MethOk P w K mg base CX0 4 "put" ["self", "room", "address", "number"] (spPut K) := by
  have D_need_room_number := ok_need_room (P := P) (w := w) (base := base) T
  have D_is_whole := ok_is_whole (P := P) (w := w) (base := base) T
  have D_need_number := ok_need_number (P := P) (w := w) (base := base) T
  refine meth0 (i := 36) (n := 9) (q := "Machine.put") (N := NP) T rfl sc_put (fun _ _ _ _ _ _ us hl => match us, hl with | [_, _, _, _], _ => rfl) (fun vs H Q E h => ?_) (fun cdv A outer s H vs Q E hr h => ?_)
  · obtain ⟨_, _, _, _, _, _, _, _, rfl, _⟩ := h
    rfl
  · obtain ⟨M, b, s, stp, ad, r, a, n, rfl, hm, h0, h1, a0, a1, hn, q⟩ := h
    obtain ⟨vb, av, hx⟩ := hm.mx
    have nd := sc_put.nd
    obtain ⟨ca, hca, hil⟩ := hx.cell (r := r.toNat) (by omega)
    have ix : atI (M.cas.map V.ref) r = some (.ref ca) := atI_of h0 (by rw [List.getElem?_map, hca]; rfl)
    refine ⟨_, (pss_cons (ps_expr (pe_def D_need_room_number (hr.mono (by decide)) rfl (pa_cons (pv 1) (pa_cons (pe_cB (id := "len") call_len (by rfl) T.f_len PySem.boot_len (pe_fld (pv 0) rfl)) pa_nil))))
    (pss_cons (ps_if (PW.pt (pw_or (pt_not (pt_val (pe_def D_is_whole (hr.mono (by decide)) rfl (pa_cons (pv 2) pa_nil)))) (pw_or1 (pt_not (pt_chain op_le op_lt pe_int (pv 2) (pe_cB (id := "len") call_len (by rfl) T.f_len PySem.boot_len (pe_ix ix_list (pe_fld (pv 0) rfl) (pv 1) (fun _ _ => rfl)))))))) (pss_one ps_never) pss_nil)
    (pss_cons (ps_expr (pe_def D_need_number (hr.mono (by decide)) rfl (pa_cons (pv 3) pa_nil)))
    (pss_cons (ps_set (i := 4) nd rfl (Or.inl rfl) (pe_ix ix_list (pe_fld (pv 0) rfl) (pv 1) (fun _ _ => rfl)))
    (pss_one (ps_asg (pv 3) (pg_sub (pv 4) (pv 2) set_list))))))), ?_⟩
    refine ⟨_, rfl, _, rfl, _, _, _, _, _, rfl, hx.m, T.cl, T.noat 1 _ rfl, lk_cells, rd_lenL hx.cl ⟨r, _, rfl, h0, by rw [hx.clen]; exact h1, ?_⟩⟩
    refine ⟨_, rfl, _, true, rfl, rfl, true, rfl, iteF ⟨_, rfl, _, _, rfl, rfl, _, rfl, ite_dec (fun _ => ⟨_, rfl, _, _, _, _, _, rfl, hx.m, T.cl, T.noat 1 _ rfl, lk_cells, _, rfl, _, _, _, _, rfl, rfl, SqL.of hx.cl, ix, rd_len hil ⟨_, _, rfl, rfl, _, rfl, ite_decN (fun z => absurd a1 z) fun _ => ?_⟩⟩) fun z => absurd a0 z⟩⟩
    refine ⟨_, rfl, n, rfl, hn, _, rfl, _, _, _, _, _, rfl, hx.m, T.cl, T.noat 1 _ rfl, lk_cells, _, rfl, _, _, _, _, rfl, rfl, SqL.of hx.cl, ix, _, rfl, _, rfl, _, rfl, rd_set hil a0 a1 ?_⟩
    exact q _ (hx.offCell hca) (hx.setCell hca).mr
/-! ### moment -/
def spMoment (K : PySem.W.Frag) : Sp := fun vs H Q _ => ∃ (A : MA) (b : Bd) (s : MS), vs = [.ref A.m] ∧ MAt (CM K) H A b s ∧ WfM b s ∧ WfB b ∧ ∀ (H' : Hp) (v : V), Same H H' → TD H' v s.momD → Q v H'
theorem sc_moment : FnScope ["self", "row"] ["self"] (defScope (inClass (top 33) 11)) := ⟨rfl, rfl, rfl, by decide +kernel, rfl, by decide +kernel, by decide +kernel⟩
theorem ok_moment (T : Txt K mg) : MethOk P w K mg base CX0 3 "moment" ["self"] (spMoment K) := by
  have D_registers := ok_pregisters (P := P) (w := w) (base := base) T
  refine meth0 (i := 38) (n := 11) (q := "Machine.moment") (N := ["self", "row"]) T rfl sc_moment (fun _ _ _ _ _ _ us hl => match us, hl with | [_], _ => rfl) (fun vs H Q E h => ?_) (fun cdv A outer s H vs Q E hr h => ?_)
  · obtain ⟨_, _, _, rfl, _⟩ := h
    rfl
  · obtain ⟨M, b, s, rfl, hm, wf, hb, q⟩ := h
    obtain ⟨vb, av, hx⟩ := hm.mx
    have nd := sc_moment.nd
    refine ⟨_, (pss_one (ps_ret (pe_tup (pa_cons (pe_fld (pv 0) rfl) (pa_cons (pe_pr (i := 3) (pv 0) T rfl D_registers (hr.mono (by decide)) rfl) (pa_cons (pe_cT (T := "tuple") call_tuple rfl T.f_tuple (by decide +kernel) (pe_fld (pv 0) rfl)) (pa_cons (pe_cT (T := "tuple") call_tuple rfl T.f_tuple (by decide +kernel) (pe_lc (own := [("row", 1)]) rfl nd (pi_list (pe_fld (pv 0) rfl)) (blkOk_by (N := ["self", "row"]) (sc := defScope (inClass (top 33) 11)) (by decide +kernel)) (fun _ _ _ _ _ => by exact (pg_name (i := 1) nd rfl (Or.inl rfl))) (fun _ _ _ _ _ => by exact pts_nil) (fun _ _ _ _ _ => by exact (pe_cT (T := "tuple") (cTupK (K := K) rfl) rfl T.f_tuple (by decide +kernel) (pv 1))))) pa_nil))))))), ?_⟩
    refine ⟨_, rfl, _, _, _, _, _, rfl, hx.m, T.cl, T.noat 9 _ rfl, lk_at, _, rfl, _, _, _, rfl, hx.m, M, b, s, _, _, rfl, hm, fun p np => ?_⟩
    have k1 := same_new (o := .tup (s.regs.map V.int)) np
    have t1 : (upd H p (.tup (s.regs.map V.int))) p = _ := upd_same
    generalize upd H p (.tup (s.regs.map V.int)) = H1 at k1 t1 ⊢
    have h1 := hx.same k1
    obtain ⟨aks, hak, tak⟩ := h1.asks
    refine ⟨_, rfl, _, _, _, _, _, rfl, h1.m, T.cl, T.noat 8 _ rfl, lk_asks, rd_tupL hak fun p2 np2 => ?_⟩
    have k2 := same_new (o := .tup aks) np2
    have t2 : (upd H1 p2 (.tup aks)) p2 = _ := upd_same
    generalize upd H1 p2 (.tup aks) = H2 at k2 t2 ⊢
    have h2 := h1.same k2
    have hcl := h2.cs
    refine ⟨_, rfl, _, _, _, _, _, rfl, h2.m, T.cl, T.noat 1 _ rfl, lk_cells, M.cl, rfl, ⟨_, SqL.of h2.cl⟩, fun D nD => lc_it (walk_list (xs := M.cas.map V.ref)) (fun i H' => ∃ us : List V, us.length = i ∧ Same H2 H' ∧ H' D = some (.lst us) ∧ TDs H' us ((s.cells.take i).map intsD)) ⟨[], rfl, same_new nD, upd_same, .nil⟩ (fun i H' _ h => SqL.of (h.choose_spec.2.1 _ _ h2.cl)) ?_ ?_⟩
    · rintro i y H3 H4 hi ⟨us, hl, k3, hD, tus⟩ ⟨rfl, hy⟩
      rw [List.getElem?_map] at hy
      obtain ⟨ca, hca, rfl⟩ := Option.map_eq_some_iff.mp hy
      have hlt : i < s.cells.length := by
        rw [← hcl.1]
        exact (List.getElem?_eq_some_iff.mp hca).1
      have ec : s.cells[i]? = some s.cells[i] := List.getElem?_eq_getElem hlt
      have hcell := k3 _ _ (hcl.2 i ca _ hca ec)
      refine ⟨rfl, _, rfl, rd_tupL hcell fun l nl => ⟨us, keep_upd (ne_of_none hD nl).symm _ hD, ?_, us ++ [.ref l], ?_, ?_, upd_same, ?_⟩⟩
      · have := wf.cl
        have := hb.n6
        show us.length < 16777216
        omega
      · rw [List.length_append, hl]
        rfl
      · refine fun c u e => ?_
        rw [upd_ne (ne_of_none e nD), upd_ne (ne_of_none (k3 _ _ e) nl)]
        exact k3 _ _ e
      · have e2 : s.cells.take (i + 1) = s.cells.take i ++ [s.cells[i]] := by rw [List.take_succ, ec]; rfl
        rw [e2, List.map_append]
        have kt : KT H4 (upd (upd H4 l (.tup (s.cells[i].map V.int))) D (.lst (us ++ [.ref l]))) := KT.trans (Same.kt (same_new nl)) (kt_upd (lst_not (keep_upd (ne_of_none hD nl).symm _ hD)))
        refine TDs.app (tus.kt kt) (TDs.one (TD.ofInts ?_))
        rw [upd_ne (ne_of_none hD nl).symm, upd_same]
    rintro H3 ⟨us, hl, k3, hD, tus⟩
    have el : s.cells.take (M.cas.map V.ref).length = s.cells := List.take_of_length_le (by rw [List.length_map, hcl.1]; exact Nat.le_refl _)
    rw [el] at tus
    refine rd_tupL hD fun p4 np4 => ⟨Nat.le_of_ble_eq_true rfl, fun p5 np5 => ?_⟩
    have k4 := same_new (o := .tup us) np4
    have k5 := same_new (o := .tup [av, .ref p, .ref p2, .ref p4]) np5
    have kk := sm_tr k4 k5
    have kA := sm_tr k1 (sm_tr k2 (sm_tr k3 kk))
    refine q _ _ kA (.tup upd_same (.cons (sm_td kA hx.ta) (.cons (TD.ofInts (sm_tup (sm_tr k2 (sm_tr k3 kk)) t1)) (.cons (.tup (sm_tup (sm_tr k3 kk) t2) (tak.kt (Same.kt (sm_tr k2 (sm_tr k3 kk))))) (.cons (.tup (k5 _ _ upd_same) (tus.kt (Same.kt kk))) .nil)))))
/-! ### copy -/
def spCopy (K : PySem.W.Frag) : Sp := fun vs H Q _ => ∃ (A : MA) (b : Bd) (s : MS), vs = [.ref A.m] ∧ MAt (CM K) H A b s ∧ WfB b ∧ WfM b s ∧ ∀ (H' : Hp) (A' : MA), (∀ p, A'.foot p → H p = none) → Same H H' → MAt (CM K) H' A' b s → Q (.ref A'.m) H'
theorem sc_copy : FnScope ["self", "twin", "row"] ["self"] (defScope (inClass (top 33) 10)) := ⟨rfl, rfl, rfl, by decide +kernel, rfl, by decide +kernel, by decide +kernel⟩
theorem ok_copy (T : Txt K mg) : MethOk P w K mg base CX0 9 "copy" ["self"] (spCopy K) := by
  have D_init := ok_init (P := P) (w := w) (base := base) T
  refine meth0 (i := 37) (n := 10) (q := "Machine.copy") (N := ["self", "twin", "row"]) T rfl sc_copy (fun _ _ _ _ _ _ us hl => match us, hl with | [_], _ => rfl) (fun vs H Q E h => ?_) (fun cdv A outer s H vs Q E hr h => ?_)
  · obtain ⟨_, _, _, rfl, _⟩ := h
    rfl
  · obtain ⟨M, b, s, rfl, hm, hb, wf, q⟩ := h
    obtain ⟨vb, av, hx⟩ := hm.mx
    have nd := sc_copy.nd
    refine ⟨_, (pss_cons (ps_set (i := 1) nd rfl (Or.inl rfl) (pe_mach D_init (hr.mono (by decide)) T rfl pass0 (pa_cons (pe_fld (pv 0) rfl) (pa_cons pe_int pa_nil))))
    (pss_cons (ps_fld (pv 1) (pe_lc (own := [("row", 2)]) rfl nd (pi_list (pe_fld (pv 0) rfl)) (blkOk_by (N := ["self", "twin", "row"]) (sc := defScope (inClass (top 33) 10)) (by decide +kernel)) (fun _ _ _ _ _ => by exact (pg_name (i := 2) nd rfl (Or.inl rfl))) (fun _ _ _ _ _ => by exact pts_nil) (fun _ _ _ _ _ => by exact (pe_cT (T := "list") (cListK (K := K) rfl) rfl T.f_list (by decide +kernel) (pv 2)))) rfl)
    (pss_cons (ps_fld (pv 1) (pe_cT (T := "list") call_list rfl T.f_list (by decide +kernel) (pe_fld (pv 0) rfl)) rfl)
    (pss_cons (ps_fld (pv 1) (pe_cT (T := "list") call_list rfl T.f_list (by decide +kernel) (pe_fld (pv 0) rfl)) rfl)
    (pss_cons (ps_asg (pe_tup (pa_cons (pe_fld (pv 0) rfl) (pa_cons (pe_fld (pv 0) rfl) pa_nil))) (pg_tup rfl (pgs_cons (pg_attr (pv 1)) (pgs_cons (pg_attr (pv 1)) pgs_nil))))
    (pss_cons (ps_asg (pe_tup (pa_cons (pe_fld (pv 0) rfl) (pa_cons (pe_fld (pv 0) rfl) pa_nil))) (pg_tup rfl (pgs_cons (pg_attr (pv 1)) (pgs_cons (pg_attr (pv 1)) pgs_nil))))
    (pss_cons (ps_asg (pe_tup (pa_cons (pe_cT (T := "list") call_list rfl T.f_list (by decide +kernel) (pe_fld (pv 0) rfl)) (pa_cons (pe_fld (pv 0) rfl) pa_nil))) (pg_tup rfl (pgs_cons (pg_attr (pv 1)) (pgs_cons (pg_attr (pv 1)) pgs_nil))))
    (pss_one (ps_ret (pv 1)))))))))), ?_⟩
    refine ⟨_, rfl, _, _, _, _, _, rfl, hx.m, T.cl, T.noat 0 _ rfl, lk_board, fun x dx nx ndx ne => mk_rd nx ndx ne hx.tb hb ⟨by decide, by decide⟩ fun H1 A1 em fr k1 m1 => ⟨rfl, ?_⟩⟩
    subst em
    obtain ⟨vb1, av1, y1⟩ := m1.mx
    have x1 := y1.m
    have tb1 := y1.tb
    have N1 := New.start (x := A1.m) (H := H1) ⟨_, _, _, x1⟩
    have hx1 := hx.same k1
    have nfx : ∀ p, M.foot p → ¬ (p = A1.m) := fun p hp z => hm.out (fr A1.m (.inl rfl)) (z ▸ hp)
    have hcl := hx1.cs
    have hlc := wf.cl
    have h6 := hb.n6
    -- m_cells
    refine ⟨_, rfl, _, _, _, _, _, rfl, hx1.m, T.cl, T.noat 1 _ rfl, lk_cells, M.cl, rfl, ⟨_, SqL.of hx1.cl⟩, fun D nD => lc_it (walk_list (xs := M.cas.map V.ref)) (fun i H' => Same H1 H' ∧ ∃ cas : List Addr, cas.length = i ∧ New A1.m H1 H' ((D, .lst (cas.map V.ref)) :: (cellsL cas (s.cells.take i) ++ []))) ⟨same_new nD, [], rfl, N1.alloc nD⟩ (fun i H' _ h => SqL.of (h.1 _ _ hx1.cl)) ?_ ?_⟩
    · rintro i y H3 H4 hi ⟨k3, cas, hl, N3⟩ ⟨rfl, hy⟩
      rw [List.getElem?_map] at hy
      obtain ⟨ca, hca, rfl⟩ := Option.map_eq_some_iff.mp hy
      have hlt : i < s.cells.length := by
        rw [← hcl.1]
        exact (List.getElem?_eq_some_iff.mp hca).1
      have ec : s.cells[i]? = some s.cells[i] := List.getElem?_eq_getElem hlt
      have hcell := k3 _ _ (hcl.2 i ca _ hca ec)
      refine ⟨rfl, _, rfl, rd_listL hcell fun l nl => ⟨_, (N3.alloc (o := .lst (s.cells[i].map V.int)) nl).at (List.mem_cons_of_mem _ List.mem_cons_self), ?_, ?_, cas ++ [l], ?_, New.cells N3 hl ec nl⟩⟩
      · rw [List.length_map]
        show cas.length < 16777216
        omega
      · refine fun c u e => ?_
        rw [upd_ne (ne_of_none e nD), upd_ne (ne_of_none (k3 _ _ e) nl)]
        exact k3 _ _ e
      · rw [List.length_append, hl]
        rfl
    rintro H3 ⟨k3, cas, hl, N3⟩
    have e3 : s.cells.take (M.cas.map V.ref).length = s.cells := List.take_of_length_le (by rw [List.length_map, hcl.1]; exact Nat.le_refl _)
    rw [e3] at N3
    have hl2 : cas.length = s.cells.length := by rw [hl, List.length_map, hcl.1]
    have x3 := k3 _ _ x1
    clear k3 x1 N1
    refine ⟨_, rfl, _, _, _, _, rfl, x3, T.cl, T.noat 1 _ rfl, mf_len, ?_⟩
    rw [pu_cells]
    have N4 := N3.store (o := .ins (CM K) A1.dx (mf vb1 D A1.rg A1.rw_ (initS b 0).steps (initS b 0).mode.str (initS b 0).room (initS b 0).addr A1.ak av1))
    have x4 : (upd H3 A1.m (.ins (CM K) A1.dx (mf vb1 D A1.rg A1.rw_ (initS b 0).steps (initS b 0).mode.str (initS b 0).room (initS b 0).addr A1.ak av1))) A1.m = _ := upd_same
    generalize upd H3 A1.m (.ins (CM K) A1.dx (mf vb1 D A1.rg A1.rw_ (initS b 0).steps (initS b 0).mode.str (initS b 0).room (initS b 0).addr A1.ak av1)) = H4 at N4 x4 ⊢
    clear N3 x3
    have hx4 := hx1.off N4.off nfx
    -- m_registers
    refine ⟨_, rfl, _, _, _, _, _, rfl, hx4.m, T.cl, T.noat 2 _ rfl, lk_regs, rd_listL hx4.rg fun p np => ⟨_, rfl, _, _, _, _, rfl, (same_new np) _ _ x4, T.cl, T.noat 2 _ rfl, mf_len, ?_⟩⟩
    rw [pu_regs]
    have N5 := (N4.alloc (o := .lst (s.regs.map V.int)) np).store (o := .ins (CM K) A1.dx (mf vb1 D p A1.rw_ (initS b 0).steps (initS b 0).mode.str (initS b 0).room (initS b 0).addr A1.ak av1))
    have x5 : (upd (upd H4 p (.lst (s.regs.map V.int))) A1.m (.ins (CM K) A1.dx (mf vb1 D p A1.rw_ (initS b 0).steps (initS b 0).mode.str (initS b 0).room (initS b 0).addr A1.ak av1))) A1.m = _ := upd_same
    generalize upd (upd H4 p (.lst (s.regs.map V.int))) A1.m (.ins (CM K) A1.dx (mf vb1 D p A1.rw_ (initS b 0).steps (initS b 0).mode.str (initS b 0).room (initS b 0).addr A1.ak av1)) = H5 at N5 x5 ⊢
    clear N4 x4 np hx4
    have hx5 := hx1.off N5.off nfx
    -- m_row
    obtain ⟨rws, hrw, trw⟩ := hx5.row
    refine ⟨_, rfl, _, _, _, _, _, rfl, hx5.m, T.cl, T.noat 3 _ rfl, lk_row, rd_listL hrw fun r nr => ⟨_, rfl, _, _, _, _, rfl, (same_new nr) _ _ x5, T.cl, T.noat 3 _ rfl, mf_len, ?_⟩⟩
    rw [pu_row]
    have N6 := (N5.alloc (o := .lst rws) nr).store (o := .ins (CM K) A1.dx (mf vb1 D p r (initS b 0).steps (initS b 0).mode.str (initS b 0).room (initS b 0).addr A1.ak av1))
    have x6 : (upd (upd H5 r (.lst rws)) A1.m (.ins (CM K) A1.dx (mf vb1 D p r (initS b 0).steps (initS b 0).mode.str (initS b 0).room (initS b 0).addr A1.ak av1))) A1.m = _ := upd_same
    have k6 : KT H5 (upd (upd H5 r (.lst rws)) A1.m (.ins (CM K) A1.dx (mf vb1 D p r (initS b 0).steps (initS b 0).mode.str (initS b 0).room (initS b 0).addr A1.ak av1))) := KT.trans (Same.kt (same_new nr)) (kt_upd fun xs z => by
      rw [(same_new nr) _ _ x5] at z
      cases z)
    have trw6 := trw.kt k6
    generalize upd (upd H5 r (.lst rws)) A1.m (.ins (CM K) A1.dx (mf vb1 D p r (initS b 0).steps (initS b 0).mode.str (initS b 0).room (initS b 0).addr A1.ak av1)) = H6 at N6 x6 trw6 ⊢
    clear k6 trw hrw N5 x5 nr hx5
    have hx6 := hx1.off N6.off nfx
    -- m_steps, m_state
    refine ⟨_, rfl, _, _, _, _, _, rfl, hx6.m, T.cl, T.noat 4 _ rfl, lk_steps, _, rfl, _, _, _, _, _, rfl, hx6.m, T.cl, T.noat 5 _ rfl, lk_state, Nat.le_of_ble_eq_true rfl, fun t nt => ⟨t, _, rfl, SqT.of upd_same, rfl, _, _, rfl, _, rfl, _, _, _, _, rfl, (same_new nt) _ _ x6, T.cl, T.noat 4 _ rfl, mf_len, ?_⟩⟩
    rw [pu_steps]
    refine ⟨_, _, rfl, _, rfl, _, _, _, _, rfl, upd_same, T.cl, T.noat 5 _ rfl, mf_len, rfl, ?_⟩
    rw [pu_state]
    have N7 := ((N6.alloc (o := .tup [.int s.steps, .str s.mode.str]) nt).store (o := .ins (CM K) A1.dx (mf vb1 D p r s.steps (initS b 0).mode.str (initS b 0).room (initS b 0).addr A1.ak av1))).store (o := .ins (CM K) A1.dx (mf vb1 D p r s.steps s.mode.str (initS b 0).room (initS b 0).addr A1.ak av1))
    have x7 : (upd (upd (upd H6 t (.tup [.int s.steps, .str s.mode.str])) A1.m (.ins (CM K) A1.dx (mf vb1 D p r s.steps (initS b 0).mode.str (initS b 0).room (initS b 0).addr A1.ak av1))) A1.m (.ins (CM K) A1.dx (mf vb1 D p r s.steps s.mode.str (initS b 0).room (initS b 0).addr A1.ak av1))) A1.m = _ := upd_same
    have k7 : KT H6 (upd (upd (upd H6 t (.tup [.int s.steps, .str s.mode.str])) A1.m (.ins (CM K) A1.dx (mf vb1 D p r s.steps (initS b 0).mode.str (initS b 0).room (initS b 0).addr A1.ak av1))) A1.m (.ins (CM K) A1.dx (mf vb1 D p r s.steps s.mode.str (initS b 0).room (initS b 0).addr A1.ak av1))) := KT.trans (KT.trans (Same.kt (same_new nt)) (kt_upd fun xs z => by
      rw [(same_new nt) _ _ x6] at z
      cases z)) (kt_upd fun xs z => by
      rw [upd_same] at z
      cases z)
    have trw7 := trw6.kt k7
    generalize upd (upd (upd H6 t (.tup [.int s.steps, .str s.mode.str])) A1.m (.ins (CM K) A1.dx (mf vb1 D p r s.steps (initS b 0).mode.str (initS b 0).room (initS b 0).addr A1.ak av1))) A1.m (.ins (CM K) A1.dx (mf vb1 D p r s.steps s.mode.str (initS b 0).room (initS b 0).addr A1.ak av1)) = H7 at N7 x7 trw7 ⊢
    clear k7 trw6 N6 x6 nt hx6
    have hx7 := hx1.off N7.off nfx
    -- m_room, m_address
    refine ⟨_, rfl, _, _, _, _, _, rfl, hx7.m, T.cl, T.noat 6 _ rfl, lk_room, _, rfl, _, _, _, _, _, rfl, hx7.m, T.cl, T.noat 7 _ rfl, lk_addr, Nat.le_of_ble_eq_true rfl, fun u nu => ⟨u, _, rfl, SqT.of upd_same, rfl, _, _, rfl, _, rfl, _, _, _, _, rfl, (same_new nu) _ _ x7, T.cl, T.noat 6 _ rfl, mf_len, ?_⟩⟩
    rw [pu_room]
    refine ⟨_, _, rfl, _, rfl, _, _, _, _, rfl, upd_same, T.cl, T.noat 7 _ rfl, mf_len, rfl, ?_⟩
    rw [pu_addr]
    have N8 := ((N7.alloc (o := .tup [.int s.room, .int s.addr]) nu).store (o := .ins (CM K) A1.dx (mf vb1 D p r s.steps s.mode.str s.room (initS b 0).addr A1.ak av1))).store (o := .ins (CM K) A1.dx (mf vb1 D p r s.steps s.mode.str s.room s.addr A1.ak av1))
    have x8 : (upd (upd (upd H7 u (.tup [.int s.room, .int s.addr])) A1.m (.ins (CM K) A1.dx (mf vb1 D p r s.steps s.mode.str s.room (initS b 0).addr A1.ak av1))) A1.m (.ins (CM K) A1.dx (mf vb1 D p r s.steps s.mode.str s.room s.addr A1.ak av1))) A1.m = _ := upd_same
    have k8 : KT H7 (upd (upd (upd H7 u (.tup [.int s.room, .int s.addr])) A1.m (.ins (CM K) A1.dx (mf vb1 D p r s.steps s.mode.str s.room (initS b 0).addr A1.ak av1))) A1.m (.ins (CM K) A1.dx (mf vb1 D p r s.steps s.mode.str s.room s.addr A1.ak av1))) := KT.trans (KT.trans (Same.kt (same_new nu)) (kt_upd fun xs z => by
      rw [(same_new nu) _ _ x7] at z
      cases z)) (kt_upd fun xs z => by
      rw [upd_same] at z
      cases z)
    have trw8 := trw7.kt k8
    generalize upd (upd (upd H7 u (.tup [.int s.room, .int s.addr])) A1.m (.ins (CM K) A1.dx (mf vb1 D p r s.steps s.mode.str s.room (initS b 0).addr A1.ak av1))) A1.m (.ins (CM K) A1.dx (mf vb1 D p r s.steps s.mode.str s.room s.addr A1.ak av1)) = H8 at N8 x8 trw8 ⊢
    clear k8 trw7 N7 x7 nu hx7
    have hx8 := hx1.off N8.off nfx
    -- m_asks, at
    obtain ⟨aks, hak, tak⟩ := hx8.asks
    refine ⟨_, rfl, _, _, _, _, _, rfl, hx8.m, T.cl, T.noat 8 _ rfl, lk_asks, rd_listL hak fun k nk => ?_⟩
    have hx9 := hx8.same (same_new (o := .lst aks) nk)
    refine ⟨_, rfl, _, _, _, _, _, rfl, hx9.m, T.cl, T.noat 9 _ rfl, lk_at, Nat.le_of_ble_eq_true rfl, fun z nz => ⟨z, _, rfl, SqT.of upd_same, rfl, _, _, rfl, _, rfl, _, _, _, _, rfl, (same_new nz) _ _ ((same_new nk) _ _ x8), T.cl, T.noat 8 _ rfl, mf_len, ?_⟩⟩
    rw [pu_asks]
    refine ⟨_, _, rfl, _, rfl, _, _, _, _, rfl, upd_same, T.cl, T.noat 9 _ rfl, mf_len, rfl, ?_⟩
    rw [pu_at]
    have N9 := ((((N8.alloc (o := .lst aks) nk).alloc (o := .tup [.ref k, av]) nz).store (o := .ins (CM K) A1.dx (mf vb1 D p r s.steps s.mode.str s.room s.addr k av1))).store (o := .ins (CM K) A1.dx (mf vb1 D p r s.steps s.mode.str s.room s.addr k av)))
    have k9 : KT H8 (upd (upd (upd (upd H8 k (.lst aks)) z (.tup [.ref k, av])) A1.m (.ins (CM K) A1.dx (mf vb1 D p r s.steps s.mode.str s.room s.addr k av1))) A1.m (.ins (CM K) A1.dx (mf vb1 D p r s.steps s.mode.str s.room s.addr k av))) := KT.trans (KT.trans (KT.trans (Same.kt (same_new nk)) (Same.kt (same_new nz))) (kt_upd fun xs z => by
      rw [(same_new nz) _ _ ((same_new nk) _ _ x8)] at z
      cases z)) (kt_upd fun xs z => by
      rw [upd_same] at z
      cases z)
    have pm : ([z, k, u, t, r, p, D] ++ cas).Perm ([z, u, t] ++ D :: p :: r :: k :: cas) := by
      refine List.perm_iff_count.mpr fun a => ?_
      simp only [List.count_append, List.count_cons, List.count_nil]
      omega
    have cf : (cellsL cas s.cells).map (·.1) = cas := cellsL_fst hl2
    obtain ⟨M1, M2⟩ := mx_new (C := CM K) (dx := A1.dx) (b := b) (s := s) (cl := D) (rg := p) (rw_ := r) (ak := k) (cas := cas) (vb := vb1) (av := av) (rws := rws) (aks := aks) N9 (.inr ⟨[z, u, t], by simp only [List.map_cons, List.append_nil, cf]; exact pm⟩) upd_same (tb1.kt N9.off.kt) (hx8.ta.kt k9)
      (by simp) (fun q hq => by simp [hq]) hl2 (by simp) (by simp) (trw8.kt k9) (by simp) (tak.kt k9)
    refine ⟨_, rfl, q _ ⟨A1.m, A1.dx, D, p, r, k, cas⟩ (fun p2 hp2 => ?_) (fun c o e => ?_) M1⟩
    · rcases hp2 with e | hp2
      · rw [e]
        exact fr A1.m (.inl rfl)
      · exact same_none k1 (M2 p2 hp2)
    · exact N9.off.at (k1 _ _ e) (ne_of_none e (fr A1.m (.inl rfl)))
/-! ### machine_row -/
def spMRow (K : PySem.W.Frag) : Sp := fun vs H Q E => ∃ (vb v : V) (b : Bd) (n : Int), vs = [vb, .int n, v] ∧ TD H vb (bdD b) ∧ WfB b ∧ Num n ∧
  ((∃ i : Int, v = .int i ∧ 0 ≤ i ∧ i ≤ 1000000 ∧ ∀ (H' : Hp) (p : Addr) (us : List V), Same H H' → H' p = some (.lst us) → TDs H' us (runN b i.toNat (initS b n)).rowD → Q (.ref p) H') ∨ (badV v ∧ ∀ H', Same H H' → E (.ref (ga K "BadSteps")) none H'))
abbrev NM : List Str := ["board", "number", "steps", "machine"]
theorem sc_mrow : FnScope NM ["board", "number", "steps"] (defScope (top 34)) := ⟨rfl, rfl, rfl, by decide +kernel, rfl, by decide +kernel, by decide +kernel⟩
theorem ok_mrow (T : Txt K mg) : DefOk P w K mg base (L2.CX P w) 9 "machine_row" ["board", "number", "steps"] (spMRow K) := by
  have D_init := ok_init (P := P) (w := w) (base := base) T
  have D_go := ok_go (P := P) (w := w) (base := base) T
  have D_row := ok_prow (P := P) (w := w) (base := base) T
  refine defX (i := 14) (j := 14) (n := 34) (N := NM) T rfl rfl sc_mrow (fun _ _ _ _ _ _ us hl => match us, hl with | [_, _, _], _ => rfl) (fun vs H Q E h => ?_) (fun cdv A outer s H vs Q E hr h => ?_)
  · obtain ⟨_, _, _, _, rfl, _⟩ := h
    rfl
  · obtain ⟨vb, v, b, n, rfl, tb, hb, hn, h⟩ := h
    have nd := sc_mrow.nd
    refine ⟨_, (pss_cons (ps_set (i := 3) nd rfl (Or.inl rfl) (pe_mach D_init (hr.mono (by decide)) T rfl pass0 (pa_cons (pv 0) (pa_cons (pv 1) pa_nil))))
    (pss_cons (ps_expr (pe_me (i := 0) (pv 3) T rfl D_go (hr.mono (by decide)) (passes_call (W := fun cls d _ H => E cls d H) (takes_of rfl rfl rfl rfl) (fun _ _ _ _ h => h)) (pa_cons (pv 2) pa_nil)))
    (pss_one (ps_ret (pe_pr (i := 0) (pv 3) T rfl D_row (hr.mono (by decide)) rfl))))), ?_⟩
    refine ⟨_, rfl, _, rfl, fun x dx nx ndx ne => mk_rd nx ndx ne tb hb hn fun H1 A1 em fr k1 m1 => ⟨rfl, ?_⟩⟩
    subst em
    obtain ⟨vb1, av1, y1⟩ := m1.mx
    have wfi := init_wf hb hn
    refine ⟨_, rfl, _, _, _, rfl, y1.m, lk_go, _, rfl, A1, b, initS b n, v, rfl, m1, hb, wfi, (show (0 : Int) ≤ 1000000 by decide), ?_⟩
    rcases h with ⟨i, rfl, h0, h1, q⟩ | ⟨hbad, e⟩
    · refine .inl ⟨i, rfl, h0, h1, fun H2 o2 m2 => ?_⟩
      obtain ⟨vb2, av2, y2⟩ := m2.mx
      refine ⟨_, rfl, _, _, _, rfl, y2.m, A1, b, _, _, _, rfl, m2, fun p us np tus => q _ p us (fun c o e => ?_) upd_same (tus.kt (Same.kt (same_new np)))⟩
      refine (same_new np) _ _ (o2.at (k1 _ _ e) fun z => ?_)
      rw [fr c z] at e
      cases e
    · exact .inr ⟨hbad, e H1 k1⟩
end K25
set_option maxHeartbeats 2000000
/-! the law: its draws -/
namespace K25
open PySem PySem.Spec PyProof.Rows L2 He
variable {P : Program} {w : World} {K : PySem.W.Frag} {mg : Str → Option Value} {base : Heap}
theorem u1 {k : Nat} {A : Around} (r : Room k A) : A.units + 1 < cLine := hu_of r
/-! ### the law's state, its count of turns at most n -/
def LN (a gr c : Addr) (n : Int) (H : Hp) : Prop := ∃ (gs cs : List Int) (r t : Int), H a = some (.dK (kvS gr c r t)) ∧ IL H gr gs ∧ IL H c cs ∧ 0 ≤ t ∧ t ≤ n
section
variable {a gr c p : Addr} {H H1 : Hp} {n m : Int}
theorem LN.there (h : LN a gr c n H) {b : Addr} (k : SF a gr c b) : ∃ o, H b = some o ∧ ∀ xs, o ≠ .tup xs := by
  obtain ⟨gs, cs, r, t, h1, h2, h3, _⟩ := h
  rcases k with e | e | e
  · exact ⟨_, by rw [e]; exact h1, fun xs z => by cases z⟩
  · exact ⟨_, by rw [e]; exact h2, fun xs z => by cases z⟩
  · exact ⟨_, by rw [e]; exact h3, fun xs z => by cases z⟩
theorem LN.out (h : LN a gr c n H) (k : H p = none) : ¬ SF a gr c p := fun z => by
  obtain ⟨o, e, _⟩ := h.there z
  rw [k] at e
  cases e
theorem LN.off {F : Addr → Prop} (h : LN a gr c n H) (k : Off F H H1) (nf : ∀ b, SF a gr c b → ¬ F b) : LN a gr c n H1 := by
  obtain ⟨gs, cs, r, t, h1, h2, h3, h4⟩ := h
  exact ⟨gs, cs, r, t, k.at h1 (nf a (.inl rfl)), k.at h2 (nf gr (.inr (.inl rfl))), k.at h3 (nf c (.inr (.inr rfl))), h4⟩
theorem LN.same (h : LN a gr c n H) (k : Same H H1) : LN a gr c n H1 := by
  obtain ⟨gs, cs, r, t, h1, h2, h3, h4⟩ := h
  exact ⟨gs, cs, r, t, k _ _ h1, k _ _ h2, k _ _ h3, h4⟩
theorem LN.le (h : LN a gr c n H) (k : n ≤ m) : LN a gr c m H := by
  obtain ⟨gs, cs, r, t, h1, h2, h3, h4, h5⟩ := h
  exact ⟨gs, cs, r, t, h1, h2, h3, h4, Int.le_trans h5 k⟩
/-- the dict stored anew -/
theorem LN.put (h : LN a gr c n H) {r t : Int} (t0 : 0 ≤ t) (t1 : t ≤ m) : LN a gr c m (upd H a (.dK (kvS gr c r t))) := by
  obtain ⟨gs, cs, r0, t00, h1, h2, h3, h4, h5⟩ := h
  have n1 : a ≠ gr := fun z => by
    rw [← z] at h2
    have h2' : H a = some (.lst (gs.map V.int)) := h2
    rw [h1] at h2'
    cases h2'
  have n2 : a ≠ c := fun z => by
    rw [← z] at h3
    have h3' : H a = some (.lst (cs.map V.int)) := h3
    rw [h1] at h3'
    cases h3'
  exact ⟨gs, cs, r, t, upd_same, keep_upd n1 _ h2, keep_upd n2 _ h3, t0, t1⟩
theorem LN.offPut (h : LN a gr c n H) {o : HO} : Off (SF a gr c) H (upd H a o) := Off.upd (.inl rfl) fun xs z => by
  obtain ⟨_, e, k⟩ := h.there (.inl rfl)
  rw [z] at e
  cases e
  exact k _ rfl
/-- the list of great numbers changed -/
theorem LN.putG (h : LN a gr c n H) {l : List Int} : LN a gr c n (upd H gr (.lst (l.map V.int))) := by
  obtain ⟨gs, cs, r0, t00, h1, h2, h3, h4⟩ := h
  have n1 : gr ≠ a := fun z => by
    rw [z] at h2
    have h2' : H a = some (.lst (gs.map V.int)) := h2
    rw [h1] at h2'
    cases h2'
  by_cases e : c = gr
  · subst e
    exact ⟨l, l, r0, t00, keep_upd n1 _ h1, upd_same, upd_same, h4⟩
  · exact ⟨l, cs, r0, t00, keep_upd n1 _ h1, upd_same, keep_upd (Ne.symm e) _ h3, h4⟩
theorem LN.offG (h : LN a gr c n H) {o : HO} : Off (SF a gr c) H (upd H gr o) := Off.upd (.inr (.inl rfl)) fun xs z => by
  obtain ⟨_, e, k⟩ := h.there (.inr (.inl rfl))
  rw [z] at e
  cases e
  exact k _ rfl
end
section
variable {gr c : Addr} {r t x : Int}
theorem kv_great : valV (kvS gr c r t) (.inr "great") = some (.ref gr) := by kernel_rfl
theorem kv_cells : valV (kvS gr c r t) (.inr "cells") = some (.ref c) := by kernel_rfl
theorem kv_rest : valV (kvS gr c r t) (.inr "rest") = some (.int r) := by kernel_rfl
theorem kv_turn : valV (kvS gr c r t) (.inr "turn") = some (.int t) := by kernel_rfl
theorem pk_rest : putK (kvS gr c r t) (.inr "rest") (.int x) = kvS gr c x t := by kernel_rfl
theorem pk_turn : putK (kvS gr c r t) (.inr "turn") (.int x) = kvS gr c r x := by kernel_rfl
end
theorem dget {H : Hp} {a : Addr} {kvs : List (L2.Key × V)} {k : Str} {v : V} (h : H a = some (.dK kvs)) (e : valV kvs (.inr k) = some v) : DGet H a (.str k) (some v) := .inl ⟨kvs, .inr k, .inl h, rfl, e.symm⟩
theorem dput {H : Hp} {a : Addr} {kvs kvs' : List (L2.Key × V)} {k : Str} {v : V} (h : H a = some (.dK kvs)) (l : kvs.length < 1000) (e : putK kvs (.inr k) v = kvs') : DPut H a (.str k) v (upd H a (.dK kvs')) :=
  .inl ⟨kvs, .inr k, h, rfl, Nat.lt_of_lt_of_le l (Nat.le_of_ble_eq_true rfl), by rw [e]⟩
theorem sIdx {i : Int} {n : Nat} (h0 : 0 ≤ i) (h1 : i < (n : Int)) : seqIndex? i n = some i.toNat := by
  unfold seqIndex?
  have e : (if i < 0 then i + (n : Int) else i) = i := if_neg (by omega)
  show (if (decide (0 ≤ (if i < 0 then i + (n : Int) else i)) && decide ((if i < 0 then i + (n : Int) else i) < (n : Int))) = true then some (if i < 0 then i + (n : Int) else i).toNat else none) = _
  rw [e, decide_eq_true h0, decide_eq_true h1]
  rfl
theorem kvS_len {gr c : Addr} {r t : Int} : (kvS gr c r t).length < 1000 := by
  show 4 < 1000
  decide
/-! ### _law_mixed -/
def BigT : Int := 1000000000
def spMixed : Sp := fun vs H Q _ => ∃ (a gr c : Addr) (n : Int), vs = [.ref a] ∧ LN a gr c n H ∧ n ≤ BigT ∧ ∀ (H' : Hp) (k : Int), LN a gr c (n + 1) H' → Off (SF a gr c) H H' → Q (.int k) H'
abbrev NMx : List Str := ["_law_state", "_law_turn", "_law_found", "_law_prime", "_law_blend", "_law_cell"]
theorem sc_mixed : FnScope NMx ["_law_state"] (defScope (top 37)) := ⟨rfl, rfl, rfl, by decide +kernel, rfl, by decide +kernel, by decide +kernel⟩
abbrev Primes : List Int := [2147483629, 2147483647, 2147483563, 2147483587]
theorem primes_ok : ∀ z ∈ Primes, 0 < z ∧ z < 2147483648 := by decide
theorem cmul_c {i j : Int} (h : 0 ≤ j ∧ j < 4294967296) : CMul i j := .inr ⟨by omega, by omega⟩
theorem cmul_l {i j : Int} (h : 0 ≤ i ∧ i < 4294967296) : CMul i j := .inl ⟨by omega, by omega⟩
theorem ok_mixed (T : Txt K mg) : DefOk P w K mg base CX0 1 "_law_mixed" ["_law_state"] spMixed := by
  refine def0 (i := 16) (j := 16) (n := 37) (N := NMx) T rfl rfl sc_mixed (fun _ _ _ _ _ _ us hl => match us, hl with | [_], _ => rfl) (fun vs H Q E h => ?_) (fun cdv A outer s H vs Q E hr h => ?_)
  · obtain ⟨_, _, _, _, rfl, _⟩ := h
    rfl
  · obtain ⟨a, gr, c, n, rfl, hs, hn, q⟩ := h
    have nd := sc_mixed.nd
    have hu := u1 hr
    obtain ⟨gs, cs, r, t, h1, h2, h3, t0, t1⟩ := id hs
    refine ⟨_, (pss_cons (ps_par (i := 1) (j := 2) (by rfl) nd rfl rfl (by decide) rfl rfl (pa_cons (pe_op op_add (pe_dget hu (pv 0) pe_str (fun _ _ => rfl)) pe_int) (pa_cons pe_int pa_nil)) (by rfl))
    (pss_cons (ps_dput hu (pv 0) pe_str (pv 1) rfl)
    (pss_cons (ps_for PassesOwn.never rfl (pi_list (pe_lst (pa_cons pe_int (pa_cons pe_int (pa_cons pe_int (pa_cons pe_int pa_nil)))))) (pg_name (i := 3) nd rfl (Or.inl rfl)) (pss_cons (ps_set (i := 4) nd rfl (Or.inl rfl) (pe_op op_add (pe_op op_mul pe_int (pv 1)) (pe_op op_fdiv (pv 3) pe_int)))
      (pss_cons (ps_for PassesOwn.never rfl (pi_list (pe_dget hu (pv 0) pe_str (fun _ _ => rfl))) (pg_name (i := 5) nd rfl (Or.inl rfl)) (pss_one (ps_set (i := 4) nd rfl (Or.inl rfl) (pe_op op_mod (pe_cT (T := "int") call_int1I rfl T.f_int (by decide +kernel) (pe_op op_add (pe_op op_add (pe_op op_mul (pv 4) pe_int) (pv 5)) (pv 1))) (pv 3)))))
      (pss_one (ps_set (i := 2) nd rfl (Or.inl rfl) (pe_op op_add (pe_op op_mul (pv 2) pe_int) (pe_op op_mod (pe_cT (T := "int") call_int1I rfl T.f_int (by decide +kernel) (pe_op op_pow (pv 4) pe_int)) (pv 3))))))))
    (pss_one (ps_ret (pv 2)))))), ?_⟩
    refine ⟨_, rfl, _, _, rfl, dget h1 kv_turn, _, _, rfl, rfl, _, _, rfl, ?_⟩
    refine ⟨_, rfl, _, rfl, _, _, rfl, dput h1 kvS_len pk_turn, ?_⟩
    have L1 := hs.put (r := r) (t := t + 1) (m := n + 1) (by omega) (by omega)
    have o1 := hs.offPut (o := .dK (kvS gr c r (t + 1)))
    generalize upd H a (.dK (kvS gr c r (t + 1))) = H1 at L1 o1 ⊢
    clear hs h1 h2 h3
    refine ⟨Nat.le_of_ble_eq_true rfl, fun p np => ?_⟩
    have L2' := L1.same (same_new (o := .lst [V.int 2147483629, V.int 2147483647, V.int 2147483563, V.int 2147483587]) np)
    have o2 := o1.trans (Off.new (o := .lst [V.int 2147483629, V.int 2147483647, V.int 2147483563, V.int 2147483587]) np)
    have hp : IL (upd H1 p (.lst [V.int 2147483629, V.int 2147483647, V.int 2147483563, V.int 2147483587])) p Primes := upd_same
    generalize upd H1 p (.lst [V.int 2147483629, V.int 2147483647, V.int 2147483563, V.int 2147483587]) = H2 at L2' o2 hp ⊢
    have hb : BigT = 1000000000 := rfl
    refine ⟨p, rfl, ⟨_, SqL.of hp⟩, for_it (walk_list (xs := Primes.map V.int)) (fun i σ H' => H' = H2 ∧ ∃ (f : Int) (o1 o2 o3 : Option V), σ = [some (.ref a), some (.int (t + 1)), some (.int f), o1, o2, o3]) ⟨rfl, 0, none, none, none, rfl⟩ (fun i σ H' _ h => by rw [h.1]; exact SqL.of hp) ?_ ?_⟩
    · rintro i x σ H' H3 hi ⟨rfl, f, u1, u2, u3, rfl⟩ ⟨rfl, hx⟩
      obtain ⟨q0, hq0, rfl⟩ := List.mem_map.mp (List.mem_of_getElem? hx)
      obtain ⟨p0, p1⟩ := primes_ok q0 hq0
      obtain ⟨gs2, cs2, r2, t2, g1, g2, g3, t20, t21⟩ := id L2'
      refine ⟨_, rfl, _, _, rfl, rfl, cmul_l ⟨by decide, by decide⟩, _, rfl, _, _, rfl, rfl, ⟨by decide, by decide⟩, _, _, rfl, rfl, ?_⟩
      refine ⟨_, rfl, _, _, rfl, dget g1 kv_cells, c, rfl, ⟨_, SqL.of g3⟩, for_it (walk_list (xs := cs2.map V.int)) (fun i σ H' => H' = H3 ∧ ∃ (bl : Int) (o3 : Option V), bl.natAbs < 2 ^ 64 ∧ σ = [some (.ref a), some (.int (t + 1)), some (.int f), some (.int q0), some (.int bl), o3]) ⟨rfl, _, u3, ?_, rfl⟩ (fun i σ H' _ h => by rw [h.1]; exact SqL.of g3) ?_ ?_⟩
      · have d1 : 0 ≤ q0 / 41 := Int.ediv_nonneg (by omega) (by decide)
        have d2 : q0 / 41 ≤ q0 := Int.ediv_le_self _ (by omega)
        show (69621 * (t + 1) + q0 / 41).natAbs < 2 ^ 64
        omega
      · rintro j y σ H' H4 hj ⟨rfl, bl, u3, hbl, rfl⟩ ⟨rfl, hy⟩
        obtain ⟨z0, hz0, rfl⟩ := List.mem_map.mp (List.mem_of_getElem? hy)
        refine ⟨_, rfl, _, _, rfl, rfl, cmul_c ⟨by decide, by decide⟩, _, rfl, _, _, rfl, rfl, _, rfl, _, _, rfl, rfl, .inl ⟨_, rfl, _, rfl, _, _, rfl, rfl, p0, rfl, _, _, ?_, rfl⟩⟩
        have e1 := Int.emod_nonneg (bl * 48271 + z0 + (t + 1)) (show q0 ≠ 0 by omega)
        have e2 := Int.emod_lt_of_pos (bl * 48271 + z0 + (t + 1)) p0
        show ((bl * 48271 + z0 + (t + 1)) % q0).natAbs < 2 ^ 64
        omega
      · rintro σ H' ⟨rfl, bl, u3, hbl, rfl⟩
        refine ⟨_, rfl, _, _, rfl, rfl, cmul_c ⟨by decide, by decide⟩, _, rfl, _, _, rfl, rfl, ⟨by decide, by decide, hbl⟩, .inl ⟨_, rfl, _, rfl, _, _, rfl, rfl, p0, _, _, rfl, rfl, rfl, _, _, _, _, rfl⟩⟩
    · rintro σ H' ⟨rfl, f, u1, u2, u3, rfl⟩
      exact ⟨_, rfl, q _ _ L2' o2⟩
/-! ### _law_draw -/
theorem shaped_ints (l : List Int) : SeqAt.shaped (.list (l.map PyData.int)) = true := by
  have c : PyData.canLayAll0 (l.map PyData.int) = true := by
    induction l with
    | nil => simp [PyData.canLayAll0]
    | cons i l ih => simp [PyData.canLayAll0, PyData.canLay0, ih]
  have d := depthAll_le (n := 0) (xs := l.map PyData.int) fun x hx => by
    obtain ⟨z, hz, rfl⟩ := List.mem_map.mp hx
    simp [PyData.depth]
  show (PyData.canLay0 (.list (l.map PyData.int)) && decide ((PyData.list (l.map PyData.int)).depth ≤ 64)) = true
  have d2 : (PyData.list (l.map PyData.int)).depth ≤ 64 := by
    simp only [PyData.depth]
    omega
  rw [decide_eq_true d2]
  simpa [PyData.canLay0] using c
theorem eqv_nil (l : List PyData) : PyData.eqv (.list l) (.list []) = l.isEmpty := by
  cases l with
  | nil => simp [PyData.eqv, PyData.eqvAll]
  | cons p l => simp [PyData.eqv, PyData.eqvAll]
def spDraw : Sp := fun vs H Q _ => ∃ (a gr c : Addr) (n m : Int), vs = [.ref a, .int m] ∧ LN a gr c n H ∧ n ≤ BigT ∧ 0 < m ∧ m < 1000000 ∧ ∀ (H' : Hp) (k : Int), 0 ≤ k → k < m → LN a gr c (n + 1) H' → Off (SF a gr c) H H' → Q (.int k) H'
abbrev NDr : List Str := ["_law_state", "_law_room", "_law_found"]
theorem sc_draw : FnScope NDr ["_law_state", "_law_room"] (defScope (top 38)) := ⟨rfl, rfl, rfl, by decide +kernel, rfl, by decide +kernel, by decide +kernel⟩
theorem ok_draw (T : Txt K mg) : DefOk P w K mg base CX0 2 "_law_draw" ["_law_state", "_law_room"] spDraw := by
  have D_law_mixed := ok_mixed (P := P) (w := w) (base := base) T
  refine def0 (i := 17) (j := 17) (n := 38) (N := NDr) T rfl rfl sc_draw (fun _ _ _ _ _ _ us hl => match us, hl with | [_, _], _ => rfl) (fun vs H Q E h => ?_) (fun cdv A outer s H vs Q E hr h => ?_)
  · obtain ⟨_, _, _, _, _, rfl, _⟩ := h
    rfl
  · obtain ⟨a, gr, c, n, m, rfl, hs, hn, m0, m1, q⟩ := h
    have nd := sc_draw.nd
    have hu := u1 hr
    refine ⟨_, (pss_cons (ps_if (pt_cmpR op_eq (pe_dget hu (pv 0) pe_str (fun _ _ => rfl)) pe_int (nomark _)) (pss_one (ps_dput hu (pv 0) pe_str (pe_ifExp (pt_cmpR (op_neD (u64 hr)) (pe_dget hu (pv 0) pe_str (fun _ _ => rfl)) (pe_lst pa_nil) (nomark _)) (pe_bm PySem.F.plainAttrs_list PySem.F.slot_list_pop PySem.F.type_list_pop mt_popAt (pe_dget hu (pv 0) pe_str (fun _ _ => rfl)) (pa_cons pe_int pa_nil)) (pe_def D_law_mixed (hr.mono (by decide)) rfl (pa_cons (pv 0) pa_nil))) rfl)) pss_nil)
    (pss_cons (ps_set (i := 2) nd rfl (Or.inl rfl) (pe_op op_mod (pe_cT (T := "int") call_int1I rfl T.f_int (by decide +kernel) (pe_dget hu (pv 0) pe_str (fun _ _ => rfl))) (pv 1)))
    (pss_cons (ps_dput hu (pv 0) pe_str (pe_op op_fdiv (pe_dget hu (pv 0) pe_str (fun _ _ => rfl)) (pv 1)) rfl)
    (pss_one (ps_ret (pv 2)))))), ?_⟩
    have fin : ∀ {H1 : Hp}, LN a gr c (n + 1) H1 → Off (SF a gr c) H H1 → tSeq (tAsg (tOp (rI (fun x j => 0 < j) fun i j => V.int (i % j)) (tCB1 rInt1 (tDGet (tVar 0) (tC (.str "rest")))) (tVar 1)) (gName 2)) (tSeq (sDPut (tVar 0) (tC (.str "rest")) (tOp (rI CDiv fun i j => V.int (i / j)) (tDGet (tVar 0) (tC (.str "rest"))) (tVar 1))) (tRet (tVar 2))) { nx := fun _ H' => Q .non H', rt := Q } [some (.ref a), some (.int m), none] H1 := by
      intro H1 L1 o1
      obtain ⟨gs, cs, r, t, h1, h2, h3, t0, t1⟩ := id L1
      refine ⟨_, rfl, _, _, rfl, dget h1 kv_rest, .inl ⟨_, rfl, _, rfl, _, _, rfl, rfl, m0, ?_⟩⟩
      refine ⟨_, rfl, _, _, rfl, dget h1 kv_rest, _, rfl, _, _, rfl, rfl, ⟨m0, by omega⟩, _, rfl, _, _, rfl, dput h1 kvS_len pk_rest, ?_⟩
      exact ⟨_, rfl, q _ _ (Int.emod_nonneg _ (by omega)) (Int.emod_lt_of_pos _ m0) (L1.put t0 t1) (o1.trans L1.offPut)⟩
    obtain ⟨gs, cs, r, t, h1, h2, h3, t0, t1⟩ := id hs
    refine ⟨_, rfl, _, _, rfl, dget h1 kv_rest, rfl, _, rfl, ite_int (fun hr0 => ?_) fun hr0 => fin (hs.le (by omega)) (Off.refl _ _)⟩
    refine ⟨_, rfl, _, _, rfl, dget h1 kv_great, Nat.le_of_ble_eq_true rfl, fun p np => ⟨.list (gs.map .int), .list [], .lst (SqL.of ((same_new np) _ _ h2)) (TDs.ofInts gs).dp, .lst (SqL.of upd_same) .nil, shaped_ints gs, by rfl, ?_⟩⟩
    rw [eqv_nil]
    have L1 := hs.same (same_new (o := .lst []) np)
    have o1 : Off (SF a gr c) H _ := Off.new (o := .lst []) np
    have h2' := (same_new (o := .lst []) np) _ _ h2
    generalize upd H p (.lst []) = H1 at L1 o1 h2' ⊢
    obtain ⟨gs1, cs1, r1, t1', j1, j2, j3, t10, t11⟩ := id L1
    refine ⟨_, rfl, ?_⟩
    cases gs with
    | nil =>
      refine iteF ⟨_, rfl, a, gr, c, n, rfl, L1, hn, fun H2 k L2' o2 => ?_⟩
      obtain ⟨gs2, cs2, r2, t2, k1, k2, k3, t20, t21⟩ := id L2'
      exact ⟨_, rfl, _, _, rfl, dput k1 kvS_len pk_rest, fin (L2'.put t20 t21) ((o1.trans o2).trans L2'.offPut)⟩
    | cons z gs =>
      have j2' : IL H1 gr (z :: gs) := h2'
      refine iteT ⟨_, rfl, _, _, rfl, dget j1 kv_great, .inl ⟨rfl, _, SqL.of j2'⟩, _, _, _, _, _, rfl, rfl, j2', by decide, by decide, sIdx (Int.le_refl 0) (by rw [List.length_map, List.length_cons]; omega), rfl, ?_⟩
      have L2' := L1.putG (l := gs)
      obtain ⟨gs2, cs2, r2, t2, k1, k2, k3, t20, t21⟩ := id L2'
      refine ⟨_, rfl, _, _, rfl, dput k1 kvS_len pk_rest, fin (L2'.put t20 (by omega)) ((o1.trans L1.offG).trans L2'.offPut)⟩
end K25
set_option maxHeartbeats 2000000
/-! the law: begun, pick, shuffled, small, set -/
namespace K25
open PySem PySem.Spec PyProof.Rows L2 He
variable {P : Program} {w : World} {K : PySem.W.Frag} {mg : Str → Option Value} {base : Heap}
def rIxS (K : PySem.W.Frag) : R2 := fun x y H Q => rIxL K x y H Q ∨ rIxT K x y H Q
theorem ix_seq {X : Cx} : IxR X (rIxS X.K) := fun value slice pins s σ H x y v u Q I rx ry h e => h.elim (fun h => ix_list value slice pins s σ H x y v u Q I rx ry h e) fun h => ix_tup value slice pins s σ H x y v u Q I rx ry h e
/-- a list that is none of the state's, or a tuple -/
def SQ (a gr c : Addr) (H : Hp) (p : Addr) (xs : List V) : Prop := H p = some (.lst xs) ∧ ¬ SF a gr c p ∨ H p = some (.tup xs)
theorem SQ.off {a gr c p : Addr} {H H1 : Hp} {xs : List V} (h : SQ a gr c H p xs) (k : Off (SF a gr c) H H1) : SQ a gr c H1 p xs := by
  rcases h with ⟨h1, h2⟩ | h
  · exact .inl ⟨k.at h1 h2, h2⟩
  · exact .inr (k.tup h)
theorem rd_lenS {a gr c p : Addr} {H : Hp} {xs : List V} {Q : VK} (h : SQ a gr c H p xs) (q : Q (.int (xs.length : Int)) H) : rLen K [.ref p] H Q := by
  rcases h with ⟨h, _⟩ | h
  · exact rd_lenL h q
  · exact rd_lenT h q
theorem rd_ixS {a gr c p : Addr} {H : Hp} {xs : List V} {i : Int} {x : V} {Q : VK} (h : SQ a gr c H p xs) (e : atI xs i = some x) (q : Q x H) : rIxS K (.ref p) (.int i) H Q := by
  rcases h with ⟨h, _⟩ | h
  · exact .inl ⟨_, _, _, _, rfl, rfl, SqL.of h, e, q⟩
  · exact .inr ⟨_, _, _, _, rfl, rfl, SqT.of h, e, q⟩
def spPick : Sp := fun vs H Q _ => ∃ (a gr c p : Addr) (n : Int) (xs : List V), vs = [.ref a, .ref p] ∧ SQ a gr c H p xs ∧ 0 < xs.length ∧ xs.length < 1000000 ∧ LN a gr c n H ∧ n ≤ BigT ∧ ∀ (H' : Hp) (x : V), x ∈ xs → LN a gr c (n + 1) H' → Off (SF a gr c) H H' → Q x H'
abbrev NPk : List Str := ["_law_state", "_law_some"]
theorem sc_pick : FnScope NPk NPk (defScope (top 39)) := ⟨rfl, rfl, rfl, by decide +kernel, rfl, by decide +kernel, by decide +kernel⟩
theorem ok_pick (T : Txt K mg) : DefOk P w K mg base CX0 3 "_law_pick" NPk spPick := by
  have D_law_draw := ok_draw (P := P) (w := w) (base := base) T
  refine def0 (i := 18) (j := 18) (n := 39) (N := NPk) T rfl rfl sc_pick (fun _ _ _ _ _ _ us hl => match us, hl with | [_, _], _ => rfl) (fun vs H Q E h => ?_) (fun cdv A outer s H vs Q E hr h => ?_)
  · obtain ⟨_, _, _, _, _, _, rfl, _⟩ := h
    rfl
  · obtain ⟨a, gr, c, p, n, xs, rfl, hp, l0, l1, hs, hn, q⟩ := h
    refine ⟨_, (pss_one (ps_ret (pe_ix ix_seq (pv 1) (pe_def D_law_draw (hr.mono (by decide)) rfl (pa_cons (pv 0) (pa_cons (pe_cB (id := "len") call_len (by rfl) T.f_len PySem.boot_len (pv 1)) pa_nil))) (fun _ _ => rfl)))), ?_⟩
    refine ⟨_, rfl, _, rfl, _, rfl, rd_lenS hp ⟨a, gr, c, n, _, rfl, hs, hn, by omega, by omega, fun H1 k k0 k1 L1 o1 => ?_⟩⟩
    have hk : k.toNat < xs.length := by omega
    exact rd_ixS (hp.off o1) (atI_of k0 (List.getElem?_eq_getElem hk)) (q _ _ (List.getElem_mem hk) L1 o1)
def spSmall : Sp := fun vs H Q _ => ∃ (a gr c : Addr) (n : Int), vs = [.ref a] ∧ LN a gr c n H ∧ n + 1 ≤ BigT ∧ ∀ (H' : Hp) (k : Int), Num k → LN a gr c (n + 2) H' → Off (SF a gr c) H H' → Q (.int k) H'
theorem sc_small : FnScope ["_law_state"] ["_law_state"] (defScope (top 41)) := ⟨rfl, rfl, rfl, by decide +kernel, rfl, by decide +kernel, by decide +kernel⟩
theorem ok_small (T : Txt K mg) : DefOk P w K mg base CX0 4 "_law_small" ["_law_state"] spSmall := by
  have D_law_draw := ok_draw (P := P) (w := w) (base := base) T
  have D_law_pick := ok_pick (P := P) (w := w) (base := base) T
  refine def0 (i := 20) (j := 20) (n := 41) (N := ["_law_state"]) T rfl rfl sc_small (fun _ _ _ _ _ _ us hl => match us, hl with | [_], _ => rfl) (fun vs H Q E h => ?_) (fun cdv A outer s H vs Q E hr h => ?_)
  · obtain ⟨_, _, _, _, rfl, _⟩ := h
    rfl
  · obtain ⟨a, gr, c, n, rfl, hs, hn, q⟩ := h
    refine ⟨_, (pss_one (ps_ret (pe_def D_law_pick (hr.mono (by decide)) rfl (pa_cons (pv 0) (pa_cons (pe_lst (pa_cons pe_int (pa_cons pe_int (pa_cons pe_int (pa_cons pe_int (pa_cons pe_int (pa_cons pe_int (pa_cons pe_int (pa_cons pe_int (pa_cons pe_int (pa_cons pe_int (pa_cons pe_int (pa_cons pe_int (pa_cons pe_int (pa_cons pe_int (pa_cons pe_int (pa_cons (pe_op op_add pe_int (pe_def D_law_draw (hr.mono (by decide)) rfl (pa_cons (pv 0) (pa_cons pe_int pa_nil)))) pa_nil))))))))))))))))) pa_nil))))), ?_⟩
    refine ⟨_, rfl, _, rfl, a, gr, c, n, 9999, rfl, hs, by omega, by decide, by decide, fun H1 k k0 k1 L1 o1 => ⟨_, _, rfl, rfl, Nat.le_of_ble_eq_true rfl, fun p np => ?_⟩⟩
    have L2' := L1.same (same_new (o := .lst [V.int 0, V.int 1, V.int 2, V.int 3, V.int 1, V.int 0, V.int 4, V.int 5, V.int 2, V.int 9999, V.int 7, V.int 10, V.int 9, V.int 40, V.int 9998, V.int (1 + k)]) np)
    refine ⟨a, gr, c, p, n + 1, [V.int 0, V.int 1, V.int 2, V.int 3, V.int 1, V.int 0, V.int 4, V.int 5, V.int 2, V.int 9999, V.int 7, V.int 10, V.int 9, V.int 40, V.int 9998, V.int (1 + k)], rfl, .inl ⟨upd_same, L1.out np⟩, Nat.le_of_ble_eq_true rfl, Nat.le_of_ble_eq_true rfl, L2', hn, fun H3 x hx L3 o3 => ?_⟩
    have hx' : x ∈ ([0, 1, 2, 3, 1, 0, 4, 5, 2, 9999, 7, 10, 9, 40, 9998, 1 + k] : List Int).map V.int := hx
    obtain ⟨z, hz, rfl⟩ := List.mem_map.mp hx'
    refine q _ _ ?_ (L3.le (by omega)) ((o1.trans (Off.new np)).trans o3)
    simp only [List.mem_cons, List.not_mem_nil, or_false] at hz
    unfold Num
    omega
def spSet : Sp := fun vs H Q _ => ∃ i j : Int, vs = [.int i, .int j] ∧ ∀ p : Addr, H p = none → Q (.ref p) (upd H p (.lst [.int (1000 + 100 * i), .int j]))
abbrev NSt : List Str := ["_law_at", "_law_number"]
theorem sc_set : FnScope NSt NSt (defScope (top 43)) := ⟨rfl, rfl, rfl, by decide +kernel, rfl, by decide +kernel, by decide +kernel⟩
theorem ok_set (T : Txt K mg) : DefOk P w K mg base CX0 1 "_law_set" NSt spSet := by
  refine def0 (i := 22) (j := 22) (n := 43) (N := NSt) T rfl rfl sc_set (fun _ _ _ _ _ _ us hl => match us, hl with | [_, _], _ => rfl) (fun vs H Q E h => ?_) (fun cdv A outer s H vs Q E hr h => ?_)
  · obtain ⟨_, _, rfl, _⟩ := h
    rfl
  · obtain ⟨i, j, rfl, q⟩ := h
    refine ⟨_, (pss_one (ps_ret (pe_lst (pa_cons (pe_op op_add pe_int (pe_op op_mul pe_int (pv 0))) (pa_cons (pv 1) pa_nil))))), ?_⟩
    exact ⟨_, rfl, _, _, rfl, rfl, cmul_l ⟨by decide, by decide⟩, _, _, rfl, rfl, _, rfl, Nat.le_of_ble_eq_true rfl, q⟩
/-! ### _law_shuffled -/
theorem shaped_pairs (l : List (Int × Int)) : SeqAt.shaped (.list (l.map pairD)) = true := by
  have c : PyData.canLayAll0 (l.map pairD) = true := by
    induction l with
    | nil => simp [PyData.canLayAll0]
    | cons i l ih => simp [PyData.canLayAll0, PyData.canLay0, pairD, ih]
  have d := depthAll_le (n := 1) (xs := l.map pairD) fun x hx => by
    obtain ⟨z, hz, rfl⟩ := List.mem_map.mp hx
    exact depth_pair z
  show (PyData.canLay0 (.list (l.map pairD)) && decide ((PyData.list (l.map pairD)).depth ≤ 64)) = true
  have d2 : (PyData.list (l.map pairD)).depth ≤ 64 := by
    simp only [PyData.depth]
    omega
  rw [decide_eq_true d2]
  simpa [PyData.canLay0] using c
theorem TDs.eraseIdx {H : Hp} : ∀ {vs : List V} {ds : List PyData} (i : Nat), TDs H vs ds → TDs H (vs.eraseIdx i) (ds.eraseIdx i)
  | _, [], i, .nil => by
    rw [List.eraseIdx_nil, List.eraseIdx_nil]
    exact .nil
  | _, _ :: _, 0, .cons _ t => t
  | _, _ :: _, i + 1, .cons h t => .cons h (TDs.eraseIdx i t)
theorem map_erase {α β : Type} (f : α → β) : ∀ (l : List α) (i : Nat), (l.map f).eraseIdx i = (l.eraseIdx i).map f
  | [], i => by rw [List.eraseIdx_nil]; rfl
  | _ :: _, 0 => rfl
  | y :: l, i + 1 => by
    show f y :: (l.map f).eraseIdx i = f y :: (l.eraseIdx i).map f
    rw [map_erase f l i]
theorem perm_erase {α : Type} : ∀ {l : List α} {i : Nat} {x : α}, l[i]? = some x → (x :: l.eraseIdx i).Perm l
  | [], i, x, h => by simp at h
  | y :: l, 0, x, h => by
    have e : y = x := by simpa using h
    rw [e]
    exact List.Perm.refl _
  | y :: l, i + 1, x, h => by
    have ih := perm_erase (l := l) (i := i) (x := x) (by simpa using h)
    exact (List.Perm.swap y x _).trans (.cons y ih)
def spShuf : Sp := fun vs H Q _ => ∃ (a gr c p : Addr) (n : Int) (xs : List V) (ws : List (Int × Int)), vs = [.ref a, .ref p] ∧ H p = some (.lst xs) ∧ TDs H xs (ws.map pairD) ∧ xs.length < 1000000 ∧ LN a gr c n H ∧ n + xs.length ≤ BigT ∧
  ∀ (H' : Hp) (q : Addr) (ys : List V) (us : List (Int × Int)), us.Perm ws → H' q = some (.lst ys) → TDs H' ys (us.map pairD) → H q = none → LN a gr c (n + xs.length) H' → Off (SF a gr c) H H' → Q (.ref q) H'
abbrev NSh : List Str := ["_law_state", "_law_some", "_law_left", "_law_found"]
theorem sc_shuf : FnScope NSh NPk (defScope (top 40)) := ⟨rfl, rfl, rfl, by decide +kernel, rfl, by decide +kernel, by decide +kernel⟩
theorem ok_shuf (T : Txt K mg) : DefOk P w K mg base CX0 3 "_law_shuffled" NPk spShuf := by
  have D_law_draw := ok_draw (P := P) (w := w) (base := base) T
  refine def0 (i := 19) (j := 19) (n := 40) (N := NSh) T rfl rfl sc_shuf (fun _ _ _ _ _ _ us hl => match us, hl with | [_, _], _ => rfl) (fun vs H Q E h => ?_) (fun cdv A outer s H vs Q E hr h => ?_)
  · obtain ⟨_, _, _, _, _, _, _, rfl, _⟩ := h
    rfl
  · obtain ⟨a, gr, c, p, n, xs, ws, rfl, hp, tx, hl, hs, hn, q⟩ := h
    have nd := sc_shuf.nd
    have lxw := tx.lenMap
    refine ⟨_, (pss_cons (ps_par (i := 2) (j := 3) (by rfl) nd rfl rfl (by decide) rfl rfl (pa_cons (pe_cT (T := "list") call_list rfl T.f_list (by decide +kernel) (pv 1)) (pa_cons (pe_lst pa_nil) pa_nil)) (by rfl))
    (pss_cons (ps_while PassesOwn.never (pt_cmpR (op_neD (u64 hr)) (pv 2) (pe_lst pa_nil) (nomark _)) (pss_one (ps_expr (pe_bm PySem.F.plainAttrs_list PySem.F.slot_list_append PySem.F.type_list_append mt_append (pv 3) (pa_cons (pe_bm PySem.F.plainAttrs_list PySem.F.slot_list_pop PySem.F.type_list_pop mt_popAt (pv 2) (pa_cons (pe_def D_law_draw (hr.mono (by decide)) rfl (pa_cons (pv 0) (pa_cons (pe_cB (id := "len") call_len (by rfl) T.f_len PySem.boot_len (pv 2)) pa_nil))) pa_nil)) pa_nil)))))
    (pss_one (ps_ret (pv 3))))), ?_⟩
    refine ⟨_, rfl, rd_listL hp fun l nl => ⟨Nat.le_of_ble_eq_true rfl, fun f nf => ⟨_, _, rfl, ?_⟩⟩⟩
    have hne : l ≠ f := ne_of_none upd_same nf
    have nl0 : ¬ SF a gr c l := hs.out nl
    have nf0 : ¬ SF a gr c f := (hs.same (same_new (o := .lst xs) nl)).out nf
    have fH : H f = none := same_none (same_new nl) nf
    refine ⟨fun m σ H' => ∃ (n1 : Int) (ls fs : List V) (wl wf : List (Int × Int)), σ = [some (.ref a), some (.ref p), some (.ref l), some (.ref f)] ∧ wl.length = m ∧ H' l = some (.lst ls) ∧ TDs H' ls (wl.map pairD) ∧ H' f = some (.lst fs) ∧ TDs H' fs (wf.map pairD) ∧ (wf ++ wl).Perm ws ∧ n1 + wl.length = n + xs.length ∧ LN a gr c n1 H' ∧ Off (SF a gr c) H H',
      ⟨ws.length, n, xs, [], ws, [], rfl, rfl, keep_upd (Ne.symm hne) _ upd_same, tx.kt (Same.kt (sm_tr (same_new nl) (same_new nf))), upd_same, .nil, List.Perm.refl _, by rw [lxw], (hs.same (same_new nl)).same (same_new nf), (Off.new nl).trans (Off.new nf)⟩, ?_⟩
    rintro m σ H' ⟨n1, ls, fs, wl, wf, rfl, hm, h1, t1, h2, t2, pm, hsum, L1, o1⟩
    have lls := t1.lenMap
    refine ⟨_, rfl, Nat.le_of_ble_eq_true rfl, fun e ne => ⟨.list (wl.map pairD), .list [], .lst (SqL.of ((same_new ne) _ _ h1)) (t1.kt (Same.kt (same_new ne))).dp, .lst (SqL.of upd_same) .nil, shaped_pairs wl, by rfl, ?_⟩⟩
    rw [eqv_nil]
    have k3 := same_new (o := .lst []) ne
    have o3 : Off (SF a gr c) H _ := o1.trans (Off.new (o := .lst []) ne)
    have j1 := k3 _ _ h1
    have j2 := k3 _ _ h2
    have s1 := t1.kt (Same.kt k3)
    have s2 := t2.kt (Same.kt k3)
    have L3 := L1.same k3
    generalize upd H' e (.lst []) = H3 at o3 j1 j2 s1 s2 L3 ⊢
    refine ⟨_, rfl, ?_⟩
    cases wl with
    | nil =>
      refine iteF ⟨_, rfl, q _ f fs wf ?_ j2 s2 fH (L3.le ?_) o3⟩
      · have := pm
        rw [List.append_nil] at this
        exact this
      · have e0 : (([] : List (Int × Int)).length : Int) = 0 := rfl
        omega
    | cons w0 wl =>
      subst hm
      have ll : ls.length = wl.length + 1 := lls
      have lw : (w0 :: wl).length = wl.length + 1 := rfl
      have hperm := pm.length_eq
      rw [List.length_append] at hperm
      have lfs := t2.lenMap
      refine iteT ⟨_, fun _ _ h => ⟨wl.length, Nat.lt_succ_self _, h⟩, ?_⟩
      refine ⟨_, rfl, .inl ⟨rfl, _, SqL.of j2⟩, _, rfl, .inl ⟨rfl, _, SqL.of j1⟩, _, rfl, _, rfl, rd_lenL j1 ⟨a, gr, c, n1, _, rfl, L3, by omega, by omega, by omega, fun H4 k k0 k1 L4 o4 => ?_⟩⟩
      have j1' := o4.at j1 nl0
      have j2' := o4.at j2 nf0
      have hk : k.toNat < ls.length := by omega
      have hkw : k.toNat < (w0 :: wl).length := by omega
      have ew : (w0 :: wl)[k.toNat]? = some (w0 :: wl)[k.toNat] := List.getElem?_eq_getElem hkw
      obtain ⟨y, hy, ty⟩ := s1.get (i := k.toNat) (d := pairD (w0 :: wl)[k.toNat]) (by rw [List.getElem?_map, ew]; rfl)
      refine ⟨_, _, _, _, _, rfl, rfl, j1', by omega, by omega, sIdx k0 k1, hy, ?_⟩
      have kt5 : KT H4 (upd H4 l (.lst (ls.eraseIdx k.toNat))) := kt_upd (lst_not j1')
      have kt6 : KT (upd H4 l (.lst (ls.eraseIdx k.toNat))) (upd (upd H4 l (.lst (ls.eraseIdx k.toNat))) f (.lst (fs ++ [y]))) := kt_upd (lst_not (keep_upd hne _ j2'))
      have kt := KT.trans o4.kt (KT.trans kt5 kt6)
      refine ⟨_, _, _, rfl, rfl, keep_upd hne _ j2', ?_, n1 + 1, ls.eraseIdx k.toNat, fs ++ [y], (w0 :: wl).eraseIdx k.toNat, wf ++ [(w0 :: wl)[k.toNat]], rfl, ?_, keep_upd (Ne.symm hne) _ upd_same, ?_, upd_same, ?_, ?_, ?_, ?_, ?_⟩
      · show fs.length < 16777216
        omega
      · rw [List.length_eraseIdx_of_lt hkw]
        rfl
      · rw [← map_erase]
        exact (s1.kt kt).eraseIdx _
      · rw [List.map_append]
        exact TDs.app (s2.kt kt) (TDs.one (ty.kt kt))
      · refine List.Perm.trans ?_ pm
        rw [List.append_assoc]
        exact List.Perm.append_left wf (perm_erase ew)
      · rw [List.length_eraseIdx_of_lt hkw]
        omega
      · refine L4.off (F := fun b => b = l ∨ b = f) ?_ ?_
        · exact (Off.upd (.inl rfl) (lst_not j1')).trans (Off.upd (.inr rfl) (lst_not (keep_upd hne _ j2')))
        · rintro b hb (e | e)
          · exact nl0 (e ▸ hb)
          · exact nf0 (e ▸ hb)
      · have of : Off (fun b => b = l ∨ b = f) H4 (upd (upd H4 l (.lst (ls.eraseIdx k.toNat))) f (.lst (fs ++ [y]))) := (Off.upd (.inl rfl) (lst_not j1')).trans (Off.upd (.inr rfl) (lst_not (keep_upd hne _ j2')))
        intro b o e ke
        refine of b o ((o3.trans o4) b o e ke) ?_
        rintro (z | z)
        · rw [z, nl] at e
          cases e
        · rw [z, fH] at e
          cases e
/-! ### _law_begun -/
def spBegun (K : PySem.W.Frag) : Sp := fun vs H Q _ => ∃ (p : Addr) (ns : List Int), vs = [.ref p] ∧ SqL K H p (ns.map V.int) ∧ ns.length ≤ 1000 ∧ ∀ (H' : Hp) (a gr c : Addr), Same H H' → (∀ q, SF a gr c q → H q = none) → LN a gr c 0 H' → Q (.ref a) H'
abbrev NBg : List Str := ["_law_script", "_law_great", "_law_cell"]
theorem sc_begun : FnScope NBg ["_law_script"] (defScope (top 36)) := ⟨rfl, rfl, rfl, by decide +kernel, rfl, by decide +kernel, by decide +kernel⟩
theorem SqL.sm {H H1 : Hp} {p : Addr} {xs : List V} (h : SqL K H p xs) (k : Same H H1) : SqL K H1 p xs := Same.seq k h
theorem ok_begun (T : Txt K mg) : DefOk P w K mg base CX0 1 "_law_begun" ["_law_script"] (spBegun K) := by
  refine def0 (i := 15) (j := 15) (n := 36) (N := NBg) T rfl rfl sc_begun (fun _ _ _ _ _ _ us hl => match us, hl with | [_], _ => rfl) (fun vs H Q E h => ?_) (fun cdv A outer s H vs Q E hr h => ?_)
  · obtain ⟨_, _, rfl, _⟩ := h
    rfl
  · obtain ⟨p, ns, rfl, hp, hl, q⟩ := h
    have nd := sc_begun.nd
    refine ⟨_, (pss_cons (ps_setLc (i := 1) (own := [("_law_cell", 2)]) rfl nd rfl rfl (sw_true rfl rfl rfl (by decide +kernel)) (pi_list (pv 0)) (blkOk_by (N := ["_law_script", "_law_great", "_law_cell"]) (sc := defScope (top 36)) (by decide +kernel)) (fun _ _ _ _ _ => by exact (pg_name (i := 2) nd rfl (Or.inl rfl))) (fun _ _ _ _ _ => by exact (pts_one (pt_cmpR op_ge (pe_cB (id := "abs") call_absI rfl T.f_abs (by decide +kernel) (pv 2)) (pe_op op_pow pe_int pe_int) (nomark _)))) (fun _ _ _ _ _ => by exact (pe_op op_sub (pe_cB (id := "abs") call_absI rfl T.f_abs (by decide +kernel) (pv 2)) (pe_op op_pow pe_int pe_int))))
    (pss_one (ps_ret (pe_disp (pps_cons pe_str (pv 1) (pps_cons pe_str (pe_lc (own := [("_law_cell", 2)]) rfl nd (pi_list (pv 0)) (blkOk_by (N := ["_law_script", "_law_great", "_law_cell"]) (sc := defScope (top 36)) (by decide +kernel)) (fun _ _ _ _ _ => by exact (pg_name (i := 2) nd rfl (Or.inl rfl))) (fun _ _ _ _ _ => by exact pts_nil) (fun _ _ _ _ _ => by exact (pe_cB (id := "abs") call_absI rfl T.f_abs (by decide +kernel) (pv 2)))) (pps_cons pe_str pe_int (pps_cons pe_str pe_int pps_nil)))) (by rfl) (by rfl) (fun z => by cases z) (by decide))))), ?_⟩
    refine ⟨_, rfl, p, rfl, ⟨_, hp⟩, fun D nD => lc_it (walk_list (xs := ns.map V.int)) (fun i H' => ∃ l : List Int, l.length ≤ i ∧ Same H H' ∧ IL H' D l) ⟨[], Nat.le_refl 0, same_new nD, upd_same⟩ (fun i H' _ h => SqL.sm hp h.choose_spec.2.1) ?_ ?_⟩
    · rintro i x H1 H2 hi ⟨l, ll, k1, k2⟩ ⟨rfl, hx⟩
      obtain ⟨z, hz, rfl⟩ := List.mem_map.mp (List.mem_of_getElem? hx)
      rw [List.length_map] at hi
      refine ⟨rfl, _, rfl, _, rfl, _, _, rfl, rfl, ⟨by decide, by decide, by decide⟩, _, _, rfl, rfl, _, rfl, ite_dec (fun _ => ?_) fun _ => ⟨l, Nat.le_succ_of_le ll, k1, k2⟩⟩
      refine ⟨_, rfl, _, rfl, _, _, rfl, rfl, ⟨by decide, by decide, by decide⟩, _, _, rfl, rfl, l.map V.int, k2, ?_, l ++ [(if z < 0 then -z else z) - 10 ^ (18 : Int).toNat], ?_, ?_, ?_⟩
      · rw [List.length_map]
        show l.length < 16777216
        omega
      · rw [List.length_append]
        exact Nat.succ_le_succ ll
      · refine fun b o e => ?_
        rw [upd_ne (ne_of_none e nD)]
        exact k1 _ _ e
      · show (upd H2 D _) D = _
        rw [upd_same, List.map_append]
        rfl
    rintro H1 ⟨l, ll, k1, k2⟩
    refine fun a na => ?_
    have k3 := sm_tr k1 (same_new (o := .dK []) na)
    have hD : IL (upd H1 a (.dK [])) D l := same_new na _ _ k2
    have hA : (upd H1 a (.dK [])) a = some (.dK []) := upd_same
    generalize upd H1 a (.dK []) = H2 at k3 hD hA ⊢
    refine ⟨_, rfl, _, rfl, p, rfl, ⟨_, SqL.sm hp k3⟩, fun D2 nD2 => lc_it (walk_list (xs := ns.map V.int)) (fun i H' => ∃ l : List Int, l.length ≤ i ∧ Same H2 H' ∧ IL H' D2 l) ⟨[], Nat.le_refl 0, same_new nD2, upd_same⟩ (fun i H' _ h => SqL.sm hp (sm_tr k3 h.choose_spec.2.1)) ?_ ?_⟩
    · rintro i x H3 H4 hi ⟨l, ll, j1, j2⟩ ⟨rfl, hx⟩
      obtain ⟨z, hz, rfl⟩ := List.mem_map.mp (List.mem_of_getElem? hx)
      rw [List.length_map] at hi
      refine ⟨rfl, _, rfl, _, rfl, l.map V.int, j2, ?_, l ++ [if z < 0 then -z else z], ?_, ?_, ?_⟩
      · rw [List.length_map]
        show l.length < 16777216
        omega
      · rw [List.length_append]
        exact Nat.succ_le_succ ll
      · refine fun b o e => ?_
        rw [upd_ne (ne_of_none e nD2)]
        exact j1 _ _ e
      · show (upd H4 D2 _) D2 = _
        rw [upd_same, List.map_append]
        rfl
    rintro H3 ⟨l2, ll2, j1, j2⟩
    have fa : H a = none := same_none k1 na
    refine ⟨j1 _ _ hA, kvS D D2 0 0, rfl, Nat.le_of_ble_eq_true rfl, ?_⟩
    have em : mergeK [] (kvS D D2 0 0) = kvS D D2 0 0 := by kernel_rfl
    rw [em]
    have k4 : Same H H3 := sm_tr k3 j1
    refine q _ a D D2 ?_ ?_ ?_
    · refine fun b o e => ?_
      rw [upd_ne (ne_of_none e fa)]
      exact k4 _ _ e
    · rintro b (e | e | e)
      · rw [e]
        exact fa
      · rw [e]
        exact nD
      · rw [e]
        exact same_none k3 nD2
    · have n1 : a ≠ D := fun z => by
        rw [z, k2] at na
        cases na
      have n2 : a ≠ D2 := fun z => by
        rw [z] at hA
        rw [hA] at nD2
        cases nD2
      exact ⟨l, l2, 0, 0, upd_same, keep_upd n1 _ (j1 _ _ hD), keep_upd n2 _ j2, Int.le_refl 0, Int.le_refl 0⟩
end K25
set_option maxHeartbeats 2000000
/-! the law: piece, noise, counting_piece -/
namespace K25
open PySem PySem.Spec PyProof.Rows L2 He
variable {P : Program} {w : World} {K : PySem.W.Frag} {mg : Str → Option Value} {base : Heap}
/-! ### lists of numbers that are none of the state's -/
def RL (a gr c : Addr) (H : Hp) (p : Addr) (lo hi : Nat) : Prop := ∃ l : List Int, IL H p l ∧ (∀ z ∈ l, Num z) ∧ lo ≤ l.length ∧ l.length ≤ hi ∧ ¬ SF a gr c p
def AR (a gr c : Addr) (H : Hp) (xs : List V) (hi : Nat) : Prop := ∀ x ∈ xs, ∃ p, x = .ref p ∧ RL a gr c H p 0 hi
theorem nn : ∀ z ∈ ([] : List Int), Num z := fun z hz => (by cases hz)
theorem nc {i : Int} {l : List Int} (h0 : 0 ≤ i) (h1 : i ≤ 9999) (h : ∀ z ∈ l, Num z) : ∀ z ∈ i :: l, Num z := fun z hz => by
  rcases List.mem_cons.mp hz with e | hz
  · rw [e]
    exact ⟨h0, h1⟩
  · exact h z hz
theorem ncN {i : Int} {l : List Int} (h0 : Num i) (h : ∀ z ∈ l, Num z) : ∀ z ∈ i :: l, Num z := nc h0.1 h0.2 h
section
variable {a gr c p q : Addr} {H H1 : Hp} {lo hi lo' hi' : Nat} {n : Int} {l : List Int} {xs : List V}
theorem RL.off (h : RL a gr c H p lo hi) (k : Off (SF a gr c) H H1) : RL a gr c H1 p lo hi := by
  obtain ⟨l, h1, h2, h3, h4, h5⟩ := h
  exact ⟨l, k.at h1 h5, h2, h3, h4, h5⟩
theorem RL.same (h : RL a gr c H p lo hi) (k : Same H H1) : RL a gr c H1 p lo hi := h.off (Off.same k)
theorem RL.le (h : RL a gr c H p lo hi) (k : lo' ≤ lo) (k2 : hi ≤ hi') : RL a gr c H1 p lo' hi' → RL a gr c H1 p lo' hi' := id
theorem RL.wide (h : RL a gr c H p lo hi) (k : lo' ≤ lo) (k2 : hi ≤ hi') : RL a gr c H p lo' hi' := by
  obtain ⟨l, h1, h2, h3, h4, h5⟩ := h
  exact ⟨l, h1, h2, Nat.le_trans k h3, Nat.le_trans h4 k2, h5⟩
theorem AR.off (h : AR a gr c H xs hi) (k : Off (SF a gr c) H H1) : AR a gr c H1 xs hi := fun x hx => by
  obtain ⟨p, e, r⟩ := h x hx
  exact ⟨p, e, r.off k⟩
theorem AR.nil : AR a gr c H [] hi := fun x hx => (by cases hx)
/-- a new list of numbers -/
theorem nl (hs : LN a gr c n H) (np : H p = none) (hl : ∀ z ∈ l, Num z) : LN a gr c n (upd H p (.lst (l.map V.int))) ∧ Off (SF a gr c) H (upd H p (.lst (l.map V.int))) ∧ RL a gr c (upd H p (.lst (l.map V.int))) p l.length l.length :=
  ⟨hs.same (same_new np), Off.new np, l, upd_same, hl, Nat.le_refl _, Nat.le_refl _, hs.out np⟩
theorem nlA (hs : LN a gr c n H) (A : AR a gr c H xs hi) (np : H p = none) (hl : ∀ z ∈ l, Num z) (hh : l.length ≤ hi) : LN a gr c n (upd H p (.lst (l.map V.int))) ∧ Off (SF a gr c) H (upd H p (.lst (l.map V.int))) ∧ AR a gr c (upd H p (.lst (l.map V.int))) (xs ++ [.ref p]) hi := by
  obtain ⟨h1, h2, h3⟩ := nl hs np hl
  refine ⟨h1, h2, fun x hx => ?_⟩
  rcases List.mem_append.mp hx with hx | hx
  · exact A.off h2 x hx
  · rw [List.mem_singleton.mp hx]
    exact ⟨p, rfl, h3.wide (Nat.zero_le _) hh⟩
/-- x + y -/
theorem rd_cat {b1 b2 : Nat} {lo1 lo2 : Nat} {Q : VK} (h1 : RL a gr c H p lo1 b1) (h2 : RL a gr c H q lo2 b2) (hb : b1 + b2 ≤ 1000000) (hs : LN a gr c n H)
    (k : ∀ (r : Addr) (H1 : Hp), H r = none → LN a gr c n H1 → Off (SF a gr c) H H1 → Same H H1 → RL a gr c H1 r (lo1 + lo2) (b1 + b2) → Q (.ref r) H1) : rCat (.ref p) (.ref q) H Q := by
  obtain ⟨l, e1, e2, e3, e4, e5⟩ := h1
  obtain ⟨m, f1, f2, f3, f4, f5⟩ := h2
  refine ⟨_, _, _, _, rfl, rfl, e1, f1, ?_, fun r nr => ?_⟩
  · rw [List.length_map, List.length_map]
    show l.length + m.length ≤ 16777216
    omega
  · rw [← List.map_append]
    obtain ⟨g1, g2, g3⟩ := nl (l := l ++ m) hs nr (fun z hz => by
      rcases List.mem_append.mp hz with hz | hz
      · exact e2 z hz
      · exact f2 z hz)
    refine k r _ nr g1 g2 (same_new nr) (g3.wide ?_ ?_)
    · rw [List.length_append]
      omega
    · rw [List.length_append]
      omega
end
/-- what follows, for two places at once -/
theorem seq_rest {A B : TS} {D : Ends} {σ : L2.St} {H : Hp} (P : Hp → Prop) (h1 : ∀ H2, P H2 → B D σ H2) (h2 : (∀ H2, P H2 → B D σ H2) → tSeq A B D σ H) : tSeq A B D σ H := h2 h1
/-- the wires of one room, as handed to a maker of pieces -/
def WT (H : Hp) (wv : V) (ws : List (Int × Int)) : Prop := TD H wv (wiresD ws) ∧ ws.length ≤ 8 ∧ ∀ p ∈ ws, Num p.1 ∧ Num p.2
theorem WT.kt {H H1 : Hp} {wv : V} {ws : List (Int × Int)} (h : WT H wv ws) (k : KT H H1) : WT H1 wv ws := ⟨h.1.kt k, h.2⟩
theorem WT.shaped {H : Hp} {wv : V} {ws : List (Int × Int)} (h : WT H wv ws) : SeqAt.shaped (.tuple (ws.map pairD)) = true := shaped_of (plain_wires h.2.2) (depth_wires ws)
theorem eqv_nilT (l : List PyData) : PyData.eqv (.tuple l) (.tuple []) = l.isEmpty := by
  cases l with
  | nil => simp [PyData.eqv, PyData.eqvAll]
  | cons p l => simp [PyData.eqv, PyData.eqvAll]
/-- a wire picked -/
theorem pick_wire {H : Hp} {xs : List V} {ws : List (Int × Int)} {x : V} (h : TDs H xs (ws.map pairD)) (hx : x ∈ xs) : ∃ p ∈ ws, ∃ b, x = .ref b ∧ H b = some (.tup [.int p.1, .int p.2]) := by
  obtain ⟨i, hi, e⟩ := List.mem_iff_getElem.mp hx
  obtain ⟨p, hp, t⟩ := h.atMap (i := i) (x := x) (by rw [List.getElem?_eq_getElem hi, e])
  obtain ⟨b, e1, e2⟩ := t.pair
  exact ⟨p, List.mem_of_getElem? hp, b, e1, e2⟩
def spPiece : Sp := fun vs H Q _ => ∃ (a gr c : Addr) (n : Int) (wv : V) (ws : List (Int × Int)), vs = [.ref a, wv, .int 30] ∧ WT H wv ws ∧ LN a gr c n H ∧ n + 10 ≤ BigT ∧ ∀ (H' : Hp) (p : Addr), RL a gr c H' p 0 10 → LN a gr c (n + 10) H' → Off (SF a gr c) H H' → Q (.ref p) H'
abbrev NPc : List Str := ["_law_state", "_law_wires", "_law_size", "_law_way", "_law_room", "_law_door", "_law_first", "_law_at", "_law_moving", "_law_spot"]
theorem sc_piece : FnScope NPc ["_law_state", "_law_wires", "_law_size"] (defScope (top 44)) := ⟨rfl, rfl, rfl, by decide +kernel, rfl, by decide +kernel, by decide +kernel⟩
theorem ok_piece (T : Txt K mg) : DefOk P w K mg base CX0 5 "_law_piece" ["_law_state", "_law_wires", "_law_size"] spPiece := by
  have D_law_draw := ok_draw (P := P) (w := w) (base := base) T
  have D_law_pick := ok_pick (P := P) (w := w) (base := base) T
  have D_law_small := ok_small (P := P) (w := w) (base := base) T
  have D_law_set := ok_set (P := P) (w := w) (base := base) T
  refine def0 (i := 23) (j := 23) (n := 44) (N := NPc) T rfl rfl sc_piece (fun _ _ _ _ _ _ us hl => match us, hl with | [_, _, _], _ => rfl) (fun vs H Q E h => ?_) (fun cdv A outer s H vs Q E hr h => ?_)
  · obtain ⟨_, _, _, _, _, _, rfl, _⟩ := h
    rfl
  · obtain ⟨a, gr, c, n, wv, ws, rfl, hw, hs, hn, q⟩ := h
    have nd := sc_piece.nd
    refine ⟨_, (pss_cons (ps_set (i := 3) nd rfl (Or.inl rfl) (pe_def D_law_draw (hr.mono (by decide)) rfl (pa_cons (pv 0) (pa_cons pe_int pa_nil))))
    (pss_cons (ps_if (PW.pt (pw_and (pt_cmpR op_lt (pv 3) pe_int (nomark _)) (pw_and1 (pt_cmpR (op_neD (u64 hr)) (pv 1) (pe_tup pa_nil) (nomark _))))) (pss_cons (ps_asg (pe_def D_law_pick (hr.mono (by decide)) rfl (pa_cons (pv 0) (pa_cons (pv 1) pa_nil))) (pg_tup rfl (pgs_cons (pg_name (i := 4) nd rfl (Or.inl rfl)) (pgs_cons (pg_name (i := 5) nd rfl (Or.inl rfl)) pgs_nil))))
      (pss_cons (ps_set (i := 6) nd rfl (Or.inl rfl) (pe_def D_law_pick (hr.mono (by decide)) rfl (pa_cons (pv 0) (pa_cons (pe_lst (pa_cons (pe_lst pa_nil) (pa_cons (pe_def D_law_set (hr.mono (by decide)) rfl (pa_cons pe_int (pa_cons (pe_def D_law_small (hr.mono (by decide)) rfl (pa_cons (pv 0) pa_nil)) pa_nil))) (pa_cons (pe_lst (pa_cons (pe_op op_add pe_int (pe_def D_law_draw (hr.mono (by decide)) rfl (pa_cons (pv 0) (pa_cons pe_int pa_nil)))) pa_nil)) (pa_cons (pe_lst (pa_cons pe_int pa_nil)) pa_nil))))) pa_nil))))
      (pss_one (ps_ret (pe_op op_cat (pe_op op_cat (pe_op op_cat (pv 6) (pe_def D_law_set (hr.mono (by decide)) rfl (pa_cons pe_int (pa_cons (pv 4) pa_nil)))) (pe_def D_law_set (hr.mono (by decide)) rfl (pa_cons pe_int (pa_cons (pv 5) pa_nil)))) (pe_lst (pa_cons pe_int pa_nil))))))) pss_nil)
    (pss_cons (ps_if (pt_cmpR op_eq (pv 3) pe_int (nomark _)) (pss_one (ps_ret (pe_op op_cat (pe_def D_law_pick (hr.mono (by decide)) rfl (pa_cons (pv 0) (pa_cons (pe_lst (pa_cons (pe_lst pa_nil) (pa_cons (pe_def D_law_set (hr.mono (by decide)) rfl (pa_cons pe_int (pa_cons (pe_def D_law_small (hr.mono (by decide)) rfl (pa_cons (pv 0) pa_nil)) pa_nil))) (pa_cons (pe_lst (pa_cons (pe_op op_add pe_int (pe_def D_law_draw (hr.mono (by decide)) rfl (pa_cons (pv 0) (pa_cons pe_int pa_nil)))) pa_nil)) pa_nil)))) pa_nil))) (pe_lst (pa_cons pe_int pa_nil))))) pss_nil)
    (pss_cons (ps_if (pt_cmpR op_eq (pv 3) pe_int (nomark _)) (pss_cons (ps_set (i := 7) nd rfl (Or.inl rfl) (pe_op op_add pe_int (pe_def D_law_draw (hr.mono (by decide)) rfl (pa_cons (pv 0) (pa_cons pe_int pa_nil)))))
      (pss_cons (ps_set (i := 8) nd rfl (Or.inl rfl) (pe_op op_add (pe_op op_add (pe_op op_add pe_int (pe_op op_mul pe_int (pe_def D_law_draw (hr.mono (by decide)) rfl (pa_cons (pv 0) (pa_cons pe_int pa_nil))))) (pe_op op_mul pe_int (pv 7))) (pe_def D_law_draw (hr.mono (by decide)) rfl (pa_cons (pv 0) (pa_cons pe_int pa_nil)))))
      (pss_one (ps_ret (pe_op op_cat (pe_def D_law_set (hr.mono (by decide)) rfl (pa_cons (pv 7) (pa_cons (pe_def D_law_draw (hr.mono (by decide)) rfl (pa_cons (pv 0) (pa_cons (pv 2) pa_nil))) pa_nil))) (pe_lst (pa_cons (pv 8) pa_nil))))))) pss_nil)
    (pss_cons (ps_if (pt_cmpR op_eq (pv 3) pe_int (nomark _)) (pss_one (ps_ret (pe_op op_cat (pe_def D_law_set (hr.mono (by decide)) rfl (pa_cons pe_int (pa_cons (pe_def D_law_draw (hr.mono (by decide)) rfl (pa_cons (pv 0) (pa_cons (pv 2) pa_nil))) pa_nil))) (pe_lst (pa_cons (pe_op op_add (pe_op op_add pe_int (pe_op op_mul pe_int (pe_def D_law_draw (hr.mono (by decide)) rfl (pa_cons (pv 0) (pa_cons pe_int pa_nil))))) pe_int) pa_nil))))) pss_nil)
    (pss_cons (ps_if (pt_cmpR op_eq (pv 3) pe_int (nomark _)) (pss_one (ps_ret (pe_lc (own := [("_law_spot", 9)]) rfl nd (pi_range1 rfl T.f_range (pa_cons pe_int pa_nil)) (blkOk_by (N := ["_law_state", "_law_wires", "_law_size", "_law_way", "_law_room", "_law_door", "_law_first", "_law_at", "_law_moving", "_law_spot"]) (sc := defScope (top 44)) (by decide +kernel)) (fun _ _ _ _ _ => by exact (pg_name (i := 9) nd rfl (Or.inl rfl))) (fun _ _ _ _ _ => by exact pts_nil) (fun _ _ _ _ _ => by exact (pe_op op_add (pe_op op_mul pe_int (pe_def D_law_pick (hr.mono (by decide)) rfl (pa_cons (pv 0) (pa_cons (pe_lst (pa_cons pe_int (pa_cons pe_int (pa_cons pe_int (pa_cons pe_int (pa_cons pe_int pa_nil)))))) pa_nil)))) (pe_def D_law_draw (hr.mono (by decide)) rfl (pa_cons (pv 0) (pa_cons pe_int pa_nil)))))))) pss_nil)
    (pss_cons (ps_if (pt_cmpR op_eq (pv 3) pe_int (nomark _)) (pss_one (ps_ret (pe_lst (pa_cons (pe_def D_law_draw (hr.mono (by decide)) rfl (pa_cons (pv 0) (pa_cons pe_int pa_nil))) pa_nil)))) pss_nil)
    (pss_one (ps_ret (pe_def D_law_set (hr.mono (by decide)) rfl (pa_cons (pe_def D_law_draw (hr.mono (by decide)) rfl (pa_cons (pv 0) (pa_cons pe_int pa_nil))) (pa_cons (pe_def D_law_small (hr.mono (by decide)) rfl (pa_cons (pv 0) pa_nil)) pa_nil)))))))))))), ?_⟩
    refine ⟨_, rfl, a, gr, c, n, 9, rfl, hs, by omega, by decide, by decide, fun H1 way way0 way1 L1 o1 => ?_⟩
    have hw1 := hw.kt o1.kt
    -- what follows the first question
    dsimp only [gName]
    refine seq_rest (A := tIfS _ _ _) (fun H2 => LN a gr c (n + 1) H2 ∧ Off (SF a gr c) H H2) ?_ fun rest => ?_
    · rintro H2 ⟨L2', o2⟩
      refine ⟨_, rfl, rfl, _, rfl, ite_int (fun e => ?_) fun _ => ⟨_, rfl, rfl, _, rfl, ite_int (fun e => ?_) fun _ => ⟨_, rfl, rfl, _, rfl, ite_int (fun e => ?_) fun _ => ⟨_, rfl, rfl, _, rfl, ite_int (fun e => ?_) fun _ => ⟨_, rfl, rfl, _, rfl, ite_int (fun e => ?_) fun _ => ?_⟩⟩⟩⟩⟩
      · -- 3
        refine ⟨_, rfl, Nat.le_of_ble_eq_true rfl, fun p1 np1 => ?_⟩
        obtain ⟨M1, m1, A1⟩ := nlA (l := []) (hi := 2) L2' AR.nil np1 nn (Nat.le_of_ble_eq_true rfl)
        refine ⟨_, rfl, a, gr, c, _, rfl, M1, by omega, fun H3 k3 k3n L3 o3 => ⟨0, k3, rfl, fun p2 np2 => ?_⟩⟩
        obtain ⟨M2, m2, A2⟩ := nlA (l := [1000 + 100 * 0, k3]) (hi := 2) L3 (A1.off o3) np2 (nc (by decide) (by decide) (ncN k3n nn)) (Nat.le_of_ble_eq_true rfl)
        refine ⟨_, rfl, a, gr, c, _, 100, rfl, M2, by omega, by decide, by decide, fun H4 k4 k40 k41 L4 o4 => ⟨_, _, rfl, rfl, Nat.le_of_ble_eq_true rfl, fun p3 np3 => ?_⟩⟩
        obtain ⟨M3, m3, A3⟩ := nlA (l := [4000 + k4]) (hi := 2) L4 (A2.off o4) np3 (nc (by omega) (by omega) nn) (Nat.le_of_ble_eq_true rfl)
        refine ⟨Nat.le_of_ble_eq_true rfl, fun p4 np4 => ⟨a, gr, c, p4, _, [.ref p1, .ref p2, .ref p3], rfl, .inl ⟨upd_same, M3.out np4⟩, Nat.le_of_ble_eq_true rfl, Nat.le_of_ble_eq_true rfl, M3.same (same_new np4), by omega, fun H5 x hx L5 o5 => ?_⟩⟩
        obtain ⟨p5, rfl, r5⟩ := (A3.off ((Off.new np4).trans o5)) x hx
        refine ⟨Nat.le_of_ble_eq_true rfl, fun p6 np6 => ?_⟩
        obtain ⟨M6, m6, r6⟩ := nl (l := [9005]) L5 np6 (nc (by decide) (by decide) nn)
        refine rd_cat (r5.off m6) r6 (Nat.le_of_ble_eq_true rfl) M6 fun r H7 _ L7 o7 _ r7 => q _ _ (r7.wide (Nat.zero_le _) (Nat.le_of_ble_eq_true rfl)) (L7.le (by omega)) ?_
        exact (((((((o2.trans m1).trans o3).trans m2).trans o4).trans m3).trans (Off.new np4)).trans o5).trans (m6.trans o7)
      · -- 4
        refine ⟨_, rfl, a, gr, c, _, 5, rfl, L2', by omega, by decide, by decide, fun H3 k3 k30 k31 L3 o3 => ⟨_, _, rfl, rfl, ?_⟩⟩
        refine ⟨_, rfl, a, gr, c, _, 9, rfl, L3, by omega, by decide, by decide, fun H4 k4 k40 k41 L4 o4 => ⟨_, _, rfl, rfl, cmul_l ⟨by decide, by decide⟩, _, _, rfl, rfl, _, rfl, _, _, rfl, rfl, cmul_l ⟨by decide, by decide⟩, _, _, rfl, rfl, _, rfl, a, gr, c, _, 10, rfl, L4, by omega, by decide, by decide, fun H5 k5 k50 k51 L5 o5 => ⟨_, _, rfl, rfl, ?_⟩⟩⟩
        refine ⟨_, rfl, _, rfl, _, rfl, a, gr, c, _, 30, rfl, L5, by omega, by decide, by decide, fun H6 k6 k60 k61 L6 o6 => ⟨_, _, rfl, fun p6 np6 => ?_⟩⟩
        obtain ⟨M6, m6, r6⟩ := nl (l := [1000 + 100 * (3 + k3), k6]) L6 np6 (nc (by omega) (by omega) (nc k60 (by omega) nn))
        refine ⟨_, rfl, Nat.le_of_ble_eq_true rfl, fun p7 np7 => ?_⟩
        obtain ⟨M7, m7, r7⟩ := nl (l := [2000 + 100 * k4 + 10 * (3 + k3) + k5]) M6 np7 (nc (by omega) (by omega) nn)
        refine rd_cat (r6.off m7) r7 (Nat.le_of_ble_eq_true rfl) M7 fun r H8 _ L8 o8 _ r8 => q _ _ (r8.wide (Nat.zero_le _) (Nat.le_of_ble_eq_true rfl)) (L8.le (by omega)) ?_
        exact ((((((o2.trans o3).trans o4).trans o5).trans o6).trans m6).trans m7).trans o8
      · -- 5
        refine ⟨_, rfl, _, rfl, a, gr, c, _, 30, rfl, L2', by omega, by decide, by decide, fun H3 k3 k30 k31 L3 o3 => ⟨8, k3, rfl, fun p6 np6 => ?_⟩⟩
        obtain ⟨M6, m6, r6⟩ := nl (l := [1000 + 100 * 8, k3]) L3 np6 (nc (by decide) (by decide) (nc k30 (by omega) nn))
        refine ⟨_, rfl, a, gr, c, _, 9, rfl, M6, by omega, by decide, by decide, fun H4 k4 k40 k41 L4 o4 => ⟨_, _, rfl, rfl, cmul_l ⟨by decide, by decide⟩, _, _, rfl, rfl, _, _, rfl, rfl, Nat.le_of_ble_eq_true rfl, fun p7 np7 => ?_⟩⟩
        obtain ⟨M7, m7, r7⟩ := nl (l := [8000 + 100 * k4 + 80]) L4 np7 (nc (by omega) (by omega) nn)
        refine rd_cat ((r6.off o4).off m7) r7 (Nat.le_of_ble_eq_true rfl) M7 fun r H8 _ L8 o8 _ r8 => q _ _ (r8.wide (Nat.zero_le _) (Nat.le_of_ble_eq_true rfl)) (L8.le (by omega)) ?_
        exact ((((o2.trans o3).trans m6).trans o4).trans m7).trans o8
      · -- 6
        refine ⟨_, rfl, by decide, by decide, fun D nD => lc_it walk_range (fun i H' => ∃ l : List Int, l.length = i ∧ IL H' D l ∧ (∀ z ∈ l, Num z) ∧ LN a gr c (n + 1 + 2 * i) H' ∧ Off (SF a gr c) H2 H') ⟨[], rfl, upd_same, nn, (L2'.same (same_new nD)).le (by omega), Off.new nD⟩ (fun _ _ _ _ => trivial) ?_ ?_⟩
        · rintro i x H3 H4 hi ⟨l, ll, k1, k2, k3, k4⟩ ⟨rfl, rfl⟩
          have hi : i < 3 := hi
          have nD' : ¬ SF a gr c D := L2'.out nD
          refine ⟨rfl, _, rfl, Nat.le_of_ble_eq_true rfl, fun p np => ⟨a, gr, c, p, _, [.int 3, .int 4, .int 5, .int 6, .int 7], rfl, .inl ⟨upd_same, k3.out np⟩, Nat.le_of_ble_eq_true rfl, Nat.le_of_ble_eq_true rfl, k3.same (same_new np), by omega, fun H5 x hx L5 o5 => ?_⟩⟩
          have hx' : x ∈ ([3, 4, 5, 6, 7] : List Int).map V.int := hx
          obtain ⟨z, hz, rfl⟩ := List.mem_map.mp hx'
          have hz' : 3 ≤ z ∧ z ≤ 7 := by
            simp only [List.mem_cons, List.not_mem_nil, or_false] at hz
            omega
          refine ⟨_, _, rfl, rfl, cmul_l ⟨by decide, by decide⟩, _, rfl, a, gr, c, _, 1000, rfl, L5, by omega, by decide, by decide, fun H6 k6 k60 k61 L6 o6 => ⟨_, _, rfl, rfl, l.map V.int, ?_, ?_, l ++ [1000 * z + k6], ?_, ?_, ?_, ?_, ?_⟩⟩
          · exact (((Off.new np).trans o5).trans o6).at k1 nD'
          · rw [List.length_map]
            show l.length < 16777216
            omega
          · rw [List.length_append, ll]
            rfl
          · show (upd H6 D _) D = _
            rw [upd_same, List.map_append]
            rfl
          · intro y hy
            rcases List.mem_append.mp hy with hy | hy
            · exact k2 y hy
            · rw [List.mem_singleton.mp hy]
              exact ⟨by omega, by omega⟩
          · refine (L6.le ?_).off (F := fun b => b = D) (Off.upd rfl (lst_not ((((Off.new np).trans o5).trans o6).at k1 nD'))) ?_
            · omega
            · rintro b hb e
              exact nD' (e ▸ hb)
          · intro b o e ke
            rw [upd_ne (ne_of_none e nD)]
            exact (((k4.trans (Off.new np)).trans o5).trans o6) b o e ke
        · rintro H3 ⟨l, ll, k1, k2, k3, k4⟩
          have ll : l.length = 3 := ll
          exact q _ _ ⟨l, k1, k2, Nat.zero_le _, by omega, L2'.out nD⟩ (k3.le (by have : (((3 : Int).toNat : Nat) : Int) = 3 := rfl; omega)) (o2.trans k4)
      · -- 7
        refine ⟨_, rfl, a, gr, c, _, 10000, rfl, L2', by omega, by decide, by decide, fun H3 k3 k30 k31 L3 o3 => ⟨Nat.le_of_ble_eq_true rfl, fun p np => ?_⟩⟩
        obtain ⟨M6, m6, r6⟩ := nl (l := [k3]) L3 np (nc k30 (by omega) nn)
        exact q _ _ (r6.wide (Nat.zero_le _) (Nat.le_of_ble_eq_true rfl)) (M6.le (by omega)) ((o2.trans o3).trans m6)
      · -- 8
        refine ⟨_, rfl, a, gr, c, _, 10, rfl, L2', by omega, by decide, by decide, fun H3 k3 k30 k31 L3 o3 => ⟨_, rfl, a, gr, c, _, rfl, L3, by omega, fun H4 k4 k4n L4 o4 => ⟨k3, k4, rfl, fun p np => ?_⟩⟩⟩
        obtain ⟨M6, m6, r6⟩ := nl (l := [1000 + 100 * k3, k4]) L4 np (nc (by omega) (by omega) (ncN k4n nn))
        exact q _ _ (r6.wide (Nat.zero_le _) (Nat.le_of_ble_eq_true rfl)) (M6.le (by omega)) (((o2.trans o3).trans o4).trans m6)
    refine ⟨_, rfl, _, _, rfl, rfl, _, rfl, ite_dec (fun c1 => ?_) fun c1 => iteF (rest _ ⟨L1, o1⟩)⟩
    obtain ⟨wp, xs, e, hwp, txs⟩ := hw1.1.inv
    subst e
    refine ⟨_, rfl, Nat.le_of_ble_eq_true rfl, fun p np => ⟨.tuple (ws.map pairD), .tuple [], .tup (SqT.of ((same_new np) _ _ hwp)) (txs.kt (Same.kt (same_new np))).dp, .tup (SqT.of upd_same) .nil, hw1.shaped, by rfl, ?_⟩⟩
    rw [eqv_nilT]
    have L2' := L1.same (same_new (o := .tup []) np)
    have o2 := o1.trans (Off.new (o := .tup []) np)
    have hwp2 := (same_new (o := .tup []) np) _ _ hwp
    have txs2 := txs.kt (Same.kt (same_new (o := .tup []) np))
    refine ⟨_, rfl, ?_⟩
    cases ws with
    | nil => exact iteF (rest _ ⟨L2', o2⟩)
    | cons w0 ws =>
      have lx := txs.lenMap
      have lw : (w0 :: ws).length = ws.length + 1 := rfl
      have hw8 := hw.2.1
      refine iteT ⟨_, rfl, _, rfl, a, gr, c, wp, _, xs, rfl, .inr hwp2, by omega, by omega, L2', by omega, fun H3 x hx L3 o3 => ?_⟩
      obtain ⟨pr, hpr, b, rfl, hb⟩ := pick_wire txs2 hx
      obtain ⟨n1, n2⟩ := hw.2.2 pr hpr
      refine ⟨b, _, rfl, SqT.of (o3.tup hb), rfl, _, _, rfl, _, _, rfl, rfl, ?_⟩
      refine ⟨_, rfl, Nat.le_of_ble_eq_true rfl, fun p1 np1 => ?_⟩
      obtain ⟨M1, m1, A1⟩ := nlA (l := []) (hi := 2) L3 AR.nil np1 nn (Nat.le_of_ble_eq_true rfl)
      refine ⟨_, rfl, a, gr, c, _, rfl, M1, by omega, fun H4 k4 k4n L4 o4 => ⟨0, k4, rfl, fun p2 np2 => ?_⟩⟩
      obtain ⟨M2, m2, A2⟩ := nlA (l := [1000 + 100 * 0, k4]) (hi := 2) L4 (A1.off o4) np2 (nc (by decide) (by decide) (ncN k4n nn)) (Nat.le_of_ble_eq_true rfl)
      refine ⟨_, rfl, a, gr, c, _, 100, rfl, M2, by omega, by decide, by decide, fun H5 k5 k50 k51 L5 o5 => ⟨_, _, rfl, rfl, Nat.le_of_ble_eq_true rfl, fun p3 np3 => ?_⟩⟩
      obtain ⟨M3, m3, A3⟩ := nlA (l := [4000 + k5]) (hi := 2) L5 (A2.off o5) np3 (nc (by omega) (by omega) nn) (Nat.le_of_ble_eq_true rfl)
      refine ⟨Nat.le_of_ble_eq_true rfl, fun p4 np4 => ?_⟩
      obtain ⟨M4, m4, A4⟩ := nlA (l := [4001]) (hi := 2) M3 A3 np4 (nc (by decide) (by decide) nn) (Nat.le_of_ble_eq_true rfl)
      refine ⟨Nat.le_of_ble_eq_true rfl, fun p5 np5 => ⟨a, gr, c, p5, _, [.ref p1, .ref p2, .ref p3, .ref p4], rfl, .inl ⟨upd_same, M4.out np5⟩, Nat.le_of_ble_eq_true rfl, Nat.le_of_ble_eq_true rfl, M4.same (same_new np5), by omega, fun H6 x hx L6 o6 => ?_⟩⟩
      obtain ⟨f, rfl, r6⟩ := (A4.off ((Off.new np5).trans o6)) x hx
      have oA := ((((((((o2.trans o3).trans m1).trans o4).trans m2).trans o5).trans m3).trans m4).trans (Off.new (o := .lst [.ref p1, .ref p2, .ref p3, .ref p4]) np5)).trans o6
      refine ⟨_, rfl, _, rfl, 1, pr.1, rfl, fun p6 np6 => ?_⟩
      obtain ⟨M6, m6, s6⟩ := nl (l := [1000 + 100 * 1, pr.1]) L6 np6 (nc (by decide) (by decide) (ncN n1 nn))
      refine rd_cat (r6.off m6) s6 (Nat.le_of_ble_eq_true rfl) M6 fun r7 H7 _ L7 o7 _ s7 => ⟨_, rfl, 2, pr.2, rfl, fun p8 np8 => ?_⟩
      obtain ⟨M8, m8, s8⟩ := nl (l := [1000 + 100 * 2, pr.2]) L7 np8 (nc (by decide) (by decide) (ncN n2 nn))
      refine rd_cat (s7.off m8) s8 (Nat.le_of_ble_eq_true rfl) M8 fun r9 H9 _ L9 o9 _ s9 => ⟨Nat.le_of_ble_eq_true rfl, fun p10 np10 => ?_⟩
      obtain ⟨M10, m10', s10⟩ := nl (l := [9120]) L9 np10 (nc (by decide) (by decide) nn)
      refine rd_cat (s9.off m10') s10 (Nat.le_of_ble_eq_true rfl) M10 fun r11 H11 _ L11 o11 _ s11 => q _ _ (s11.wide (Nat.zero_le _) (Nat.le_of_ble_eq_true rfl)) (L11.le (by omega)) ?_
      exact (((((oA.trans m6).trans o7).trans m8).trans o9).trans m10').trans o11
end K25
set_option maxHeartbeats 2000000
/-! the law: noise, counting_piece, section -/
namespace K25
open PySem PySem.Spec PyProof.Rows L2 He
variable {P : Program} {w : World} {K : PySem.W.Frag} {mg : Str → Option Value} {base : Heap}
section
variable {a gr c p D : Addr} {H H0 H1 H3 H4 : Hp} {lo hi : Nat} {n n0 n1 k y : Int} {l : List Int} {i : Nat} {Q : VK}
theorem rd_lenR (h : RL a gr c H p lo hi) (q : ∀ m : Nat, lo ≤ m → m ≤ hi → Q (.int (m : Int)) H) : rLen K [.ref p] H Q := by
  obtain ⟨l, h1, _, h3, h4, _⟩ := h
  exact rd_len h1 (q _ h3 h4)
/-- a comprehension of numbers drawn -/
def LP (a gr c : Addr) (H0 : Hp) (n0 k : Int) (D : Addr) (i : Nat) (H : Hp) : Prop := ∃ l : List Int, l.length = i ∧ IL H D l ∧ (∀ z ∈ l, Num z) ∧ LN a gr c (n0 + k * (i : Int)) H ∧ Off (SF a gr c) H0 H
theorem LP.start (hs : LN a gr c n0 H0) (nD : H0 D = none) : LP a gr c H0 n0 k D 0 (upd H0 D (.lst [])) := ⟨[], rfl, upd_same, nn, (hs.same (same_new nD)).le (by
  show n0 ≤ n0 + k * 0
  omega), Off.new nD⟩
theorem LP.step (h : LP a gr c H0 n0 k D i H3) (hs : LN a gr c n0 H0) (nD : H0 D = none) (o : Off (SF a gr c) H3 H4) (L : LN a gr c n1 H4) (hn : n1 ≤ n0 + k * ((i + 1 : Nat) : Int)) (hy : Num y) (hi : i < 1000000) :
    ∃ acc, H4 D = some (.lst acc) ∧ acc.length < sizeLine ∧ LP a gr c H0 n0 k D (i + 1) (upd H4 D (.lst (acc ++ [.int y]))) := by
  obtain ⟨l, ll, k1, k2, k3, k4⟩ := h
  have nD' : ¬ SF a gr c D := hs.out nD
  have k1' := o.at k1 nD'
  refine ⟨l.map V.int, k1', ?_, l ++ [y], ?_, ?_, ?_, ?_, ?_⟩
  · rw [List.length_map]
    show l.length < 16777216
    omega
  · rw [List.length_append, ll]
    rfl
  · show (upd H4 D _) D = _
    rw [upd_same, List.map_append]
    rfl
  · intro z hz
    rcases List.mem_append.mp hz with hz | hz
    · exact k2 z hz
    · rw [List.mem_singleton.mp hz]
      exact hy
  · refine (L.le hn).off (F := fun b => b = D) (Off.upd rfl (lst_not k1')) ?_
    rintro b hb e
    exact nD' (e ▸ hb)
  · intro b v e ke
    rw [upd_ne (ne_of_none e nD)]
    exact (k4.trans o) b v e ke
theorem LP.fin (h : LP a gr c H0 n0 k D i H) (hs : LN a gr c n0 H0) (nD : H0 D = none) : RL a gr c H D i i ∧ LN a gr c (n0 + k * (i : Int)) H ∧ Off (SF a gr c) H0 H := by
  obtain ⟨l, ll, k1, k2, k3, k4⟩ := h
  exact ⟨⟨l, k1, k2, Nat.le_of_eq ll.symm, Nat.le_of_eq ll, hs.out nD⟩, k3, k4⟩
end
theorem int_of {l : List Int} {x : V} (h : x ∈ l.map V.int) : ∃ z ∈ l, x = .int z := by
  obtain ⟨z, hz, e⟩ := List.mem_map.mp h
  exact ⟨z, hz, e.symm⟩
/-! ### noise -/
def spNoise : Sp := fun vs H Q _ => ∃ (a gr c : Addr) (n : Int), vs = [.ref a] ∧ LN a gr c n H ∧ n + 40 ≤ BigT ∧ ∀ (H' : Hp) (p : Addr), RL a gr c H' p 1 30 → LN a gr c (n + 40) H' → Off (SF a gr c) H H' → Q (.ref p) H'
abbrev NNo : List Str := ["_law_state", "_law_size", "_law_spot"]
theorem sc_noise : FnScope NNo ["_law_state"] (defScope (top 46)) := ⟨rfl, rfl, rfl, by decide +kernel, rfl, by decide +kernel, by decide +kernel⟩
theorem ok_noise (T : Txt K mg) : DefOk P w K mg base CX0 4 "_law_noise" ["_law_state"] spNoise := by
  have D_law_draw := ok_draw (P := P) (w := w) (base := base) T
  have D_law_pick := ok_pick (P := P) (w := w) (base := base) T
  refine def0 (i := 25) (j := 25) (n := 46) (N := NNo) T rfl rfl sc_noise (fun _ _ _ _ _ _ us hl => match us, hl with | [_], _ => rfl) (fun vs H Q E h => ?_) (fun cdv A outer s H vs Q E hr h => ?_)
  · obtain ⟨_, _, _, _, rfl, _⟩ := h
    rfl
  · obtain ⟨a, gr, c, n, rfl, hs, hn, q⟩ := h
    have nd := sc_noise.nd
    refine ⟨_, (pss_cons (ps_set (i := 1) nd rfl (Or.inl rfl) (pe_def D_law_pick (hr.mono (by decide)) rfl (pa_cons (pv 0) (pa_cons (pe_lst (pa_cons pe_int (pa_cons pe_int (pa_cons pe_int (pa_cons pe_int (pa_cons pe_int (pa_cons pe_int pa_nil))))))) pa_nil))))
    (pss_one (ps_ret (pe_lc (own := [("_law_spot", 2)]) rfl nd (pi_range1 rfl T.f_range (pa_cons (pv 1) pa_nil)) (blkOk_by (N := ["_law_state", "_law_size", "_law_spot"]) (sc := defScope (top 46)) (by decide +kernel)) (fun _ _ _ _ _ => by exact (pg_name (i := 2) nd rfl (Or.inl rfl))) (fun _ _ _ _ _ => by exact pts_nil) (fun _ _ _ _ _ => by exact (pe_def D_law_draw (hr.mono (by decide)) rfl (pa_cons (pv 0) (pa_cons pe_int pa_nil)))))))), ?_⟩
    refine ⟨_, rfl, Nat.le_of_ble_eq_true rfl, fun p np => ⟨a, gr, c, p, _, [.int 1, .int 2, .int 5, .int 9, .int 14, .int 30], rfl, .inl ⟨upd_same, hs.out np⟩, Nat.le_of_ble_eq_true rfl, Nat.le_of_ble_eq_true rfl, hs.same (same_new np), by omega, fun H1 x hx L1 o1 => ?_⟩⟩
    obtain ⟨z, hz, rfl⟩ := int_of (l := [1, 2, 5, 9, 14, 30]) hx
    have hz' : 1 ≤ z ∧ z ≤ 30 := by
      simp only [List.mem_cons, List.not_mem_nil, or_false] at hz
      omega
    refine ⟨_, rfl, z, rfl, by omega, by omega, fun D nD => lc_it walk_range (fun i H' => LP a gr c H1 (n + 1) 1 D i H') (LP.start L1 nD) (fun _ _ _ _ => trivial) ?_ ?_⟩
    · rintro i x H3 H4 hi h ⟨rfl, rfl⟩
      obtain ⟨_, L3, _⟩ := h.fin L1 nD
      exact ⟨rfl, _, rfl, a, gr, c, _, 10000, rfl, L3, by omega, by decide, by decide, fun H5 k k0 k1 L5 o5 => LP.step h L1 nD o5 L5 (by omega) ⟨k0, by omega⟩ (by omega)⟩
    · rintro H3 h
      obtain ⟨r3, L3, o3⟩ := h.fin L1 nD
      exact q _ _ (r3.wide (by omega) (by omega)) (L3.le (by omega)) (((Off.new np).trans o1).trans o3)
/-! ### counting_piece -/
def spCPiece : Sp := fun vs H Q _ => ∃ (a gr c : Addr) (n : Int), vs = [.ref a] ∧ LN a gr c n H ∧ n + 10 ≤ BigT ∧ ∀ (H' : Hp) (p : Addr), RL a gr c H' p 0 4 → LN a gr c (n + 5) H' → Off (SF a gr c) H H' → Q (.ref p) H'
abbrev NCp : List Str := ["_law_state", "_law_at", "_law_small_here", "_law_some"]
theorem sc_cpiece : FnScope NCp ["_law_state"] (defScope (top 48)) := ⟨rfl, rfl, rfl, by decide +kernel, rfl, by decide +kernel, by decide +kernel⟩
theorem ok_cpiece (T : Txt K mg) : DefOk P w K mg base CX0 5 "_law_counting_piece" ["_law_state"] spCPiece := by
  have D_law_draw := ok_draw (P := P) (w := w) (base := base) T
  have D_law_pick := ok_pick (P := P) (w := w) (base := base) T
  have D_law_small := ok_small (P := P) (w := w) (base := base) T
  refine def0 (i := 27) (j := 27) (n := 48) (N := NCp) T rfl rfl sc_cpiece (fun _ _ _ _ _ _ us hl => match us, hl with | [_], _ => rfl) (fun vs H Q E h => ?_) (fun cdv A outer s H vs Q E hr h => ?_)
  · obtain ⟨_, _, _, _, rfl, _⟩ := h
    rfl
  · obtain ⟨a, gr, c, n, rfl, hs, hn, q⟩ := h
    have nd := sc_cpiece.nd
    refine ⟨_, (pss_cons (ps_par (i := 1) (j := 2) (by rfl) nd rfl rfl (by decide) rfl rfl (pa_cons (pe_def D_law_pick (hr.mono (by decide)) rfl (pa_cons (pv 0) (pa_cons (pe_lst (pa_cons pe_int (pa_cons pe_int (pa_cons pe_int (pa_cons pe_int (pa_cons pe_int (pa_cons pe_int (pa_cons (pe_def D_law_draw (hr.mono (by decide)) rfl (pa_cons (pv 0) (pa_cons pe_int pa_nil))) pa_nil)))))))) pa_nil))) (pa_cons (pe_def D_law_small (hr.mono (by decide)) rfl (pa_cons (pv 0) pa_nil)) pa_nil)) (by rfl))
    (pss_cons (ps_set (i := 3) nd rfl (Or.inl rfl) (pe_lst (pa_cons (pe_lst pa_nil) (pa_cons (pe_lst (pa_cons pe_int pa_nil)) (pa_cons (pe_lst (pa_cons pe_int (pa_cons (pv 2) (pa_cons pe_int pa_nil)))) (pa_cons (pe_lst (pa_cons pe_int (pa_cons (pv 1) (pa_cons pe_int pa_nil)))) (pa_cons (pe_lst (pa_cons pe_int (pa_cons (pv 1) (pa_cons pe_int (pa_cons pe_int pa_nil))))) (pa_cons (pe_lst (pa_cons pe_int pa_nil)) pa_nil))))))))
    (pss_one (ps_ret (pe_def D_law_pick (hr.mono (by decide)) rfl (pa_cons (pv 0) (pa_cons (pe_op op_cat (pv 3) (pe_lst (pa_cons (pe_lst (pa_cons pe_int (pa_cons (pv 2) (pa_cons pe_int pa_nil)))) (pa_cons (pe_lst (pa_cons pe_int (pa_cons (pv 1) (pa_cons pe_int pa_nil)))) (pa_cons (pe_lst (pa_cons pe_int (pa_cons (pv 2) (pa_cons pe_int (pa_cons pe_int pa_nil))))) pa_nil))))) pa_nil))))))), ?_⟩
    refine ⟨_, rfl, _, rfl, a, gr, c, _, 60, rfl, hs, by omega, by decide, by decide, fun H1 k1 k10 k11 L1 o1 => ⟨Nat.le_of_ble_eq_true rfl, fun p np => ⟨a, gr, c, p, _, [.int 0, .int 1, .int 2, .int 3, .int 1, .int 2, .int k1], rfl, .inl ⟨upd_same, L1.out np⟩, Nat.le_of_ble_eq_true rfl, Nat.le_of_ble_eq_true rfl, L1.same (same_new np), by omega, fun H2 x hx L2' o2 => ?_⟩⟩⟩
    obtain ⟨z, hz, rfl⟩ := int_of (l := [0, 1, 2, 3, 1, 2, k1]) hx
    have hz' : Num z := by
      simp only [List.mem_cons, List.not_mem_nil, or_false] at hz
      unfold Num
      omega
    refine ⟨_, rfl, a, gr, c, _, rfl, L2', by omega, fun H3 s3 s3n L3 o3 => ⟨_, _, rfl, ?_⟩⟩
    have oA := ((o1.trans (Off.new (o := .lst [.int 0, .int 1, .int 2, .int 3, .int 1, .int 2, .int k1]) np)).trans o2).trans o3
    refine ⟨Nat.le_of_ble_eq_true rfl, fun p1 np1 => ?_⟩
    obtain ⟨M1, m1, A1⟩ := nlA (l := []) (hi := 4) L3 AR.nil np1 nn (Nat.le_of_ble_eq_true rfl)
    refine ⟨Nat.le_of_ble_eq_true rfl, fun p2 np2 => ?_⟩
    obtain ⟨M2, m2, A2⟩ := nlA (l := [6000]) (hi := 4) M1 A1 np2 (nc (by decide) (by decide) nn) (Nat.le_of_ble_eq_true rfl)
    refine ⟨_, rfl, Nat.le_of_ble_eq_true rfl, fun p3 np3 => ?_⟩
    obtain ⟨M3, m3, A3⟩ := nlA (l := [1400, s3, 4004]) (hi := 4) M2 A2 np3 (nc (by decide) (by decide) (ncN s3n (nc (by decide) (by decide) nn))) (Nat.le_of_ble_eq_true rfl)
    refine ⟨_, rfl, Nat.le_of_ble_eq_true rfl, fun p4 np4 => ?_⟩
    obtain ⟨M4, m4, A4⟩ := nlA (l := [1300, z, 2035]) (hi := 4) M3 A3 np4 (nc (by decide) (by decide) (ncN hz' (nc (by decide) (by decide) nn))) (Nat.le_of_ble_eq_true rfl)
    refine ⟨_, rfl, Nat.le_of_ble_eq_true rfl, fun p5 np5 => ?_⟩
    obtain ⟨M5, m5, A5⟩ := nlA (l := [1300, z, 2430, 4004]) (hi := 4) M4 A4 np5 (nc (by decide) (by decide) (ncN hz' (nc (by decide) (by decide) (nc (by decide) (by decide) nn)))) (Nat.le_of_ble_eq_true rfl)
    refine ⟨Nat.le_of_ble_eq_true rfl, fun p6 np6 => ?_⟩
    obtain ⟨M6, m6, A6⟩ := nlA (l := [4000]) (hi := 4) M5 A5 np6 (nc (by decide) (by decide) nn) (Nat.le_of_ble_eq_true rfl)
    refine ⟨Nat.le_of_ble_eq_true rfl, fun pL npL => ?_⟩
    have m7 : Off (SF a gr c) _ _ := Off.new (o := .lst [.ref p1, .ref p2, .ref p3, .ref p4, .ref p5, .ref p6]) npL
    have M7 := M6.same (same_new (o := .lst [.ref p1, .ref p2, .ref p3, .ref p4, .ref p5, .ref p6]) npL)
    have A7 := A6.off m7
    have nL := M6.out npL
    have hL : (upd (upd (upd (upd (upd (upd (upd H3 p1 (.lst ([].map V.int))) p2 (.lst ([6000].map V.int))) p3 (.lst ([1400, s3, 4004].map V.int))) p4 (.lst ([1300, z, 2035].map V.int))) p5 (.lst ([1300, z, 2430, 4004].map V.int))) p6 (.lst ([4000].map V.int))) pL (.lst [.ref p1, .ref p2, .ref p3, .ref p4, .ref p5, .ref p6])) pL = some (.lst [.ref p1, .ref p2, .ref p3, .ref p4, .ref p5, .ref p6]) := upd_same
    have oB := ((((((oA.trans m1).trans m2).trans m3).trans m4).trans m5).trans m6).trans m7
    refine ⟨_, rfl, _, rfl, _, rfl, Nat.le_of_ble_eq_true rfl, fun p8 np8 => ?_⟩
    obtain ⟨M8, m8, A8⟩ := nlA (l := [1400, s3, 6004]) (hi := 4) M7 A7 np8 (nc (by decide) (by decide) (ncN s3n (nc (by decide) (by decide) nn))) (Nat.le_of_ble_eq_true rfl)
    have hL8 := m8.at hL nL
    refine ⟨_, rfl, Nat.le_of_ble_eq_true rfl, fun p9 np9 => ?_⟩
    obtain ⟨M9, m9, A9⟩ := nlA (l := [1300, z, 2135]) (hi := 4) M8 A8 np9 (nc (by decide) (by decide) (ncN hz' (nc (by decide) (by decide) nn))) (Nat.le_of_ble_eq_true rfl)
    have hL9 := m9.at hL8 nL
    refine ⟨_, rfl, Nat.le_of_ble_eq_true rfl, fun p10 np10 => ?_⟩
    obtain ⟨M10, m10', A10⟩ := nlA (l := [1600, s3, 7406, 4004]) (hi := 4) M9 A9 np10 (nc (by decide) (by decide) (ncN s3n (nc (by decide) (by decide) (nc (by decide) (by decide) nn)))) (Nat.le_of_ble_eq_true rfl)
    have hL10 := m10'.at hL9 nL
    refine ⟨Nat.le_of_ble_eq_true rfl, fun p11 np11 => ⟨_, _, _, _, rfl, rfl, (same_new np11) _ _ hL10, upd_same, Nat.le_of_ble_eq_true rfl, fun p12 np12 => ?_⟩⟩
    have m11 : Off (SF a gr c) _ _ := (Off.new (o := .lst [.ref p8, .ref p9, .ref p10]) np11)
    have M11 := M10.same (same_new (o := .lst [.ref p8, .ref p9, .ref p10]) np11)
    have A11 := A10.off m11
    refine ⟨a, gr, c, p12, _, [.ref p1, .ref p2, .ref p3, .ref p4, .ref p5, .ref p6, .ref p8, .ref p9, .ref p10], rfl, .inl ⟨upd_same, M11.out np12⟩, Nat.le_of_ble_eq_true rfl, Nat.le_of_ble_eq_true rfl, M11.same (same_new np12), by omega, fun H13 x hx L13 o13 => ?_⟩
    obtain ⟨p13, rfl, r13⟩ := (A11.off ((Off.new np12).trans o13)) x hx
    exact q _ _ r13 (L13.le (by omega)) (((((oB.trans m8).trans m9).trans m10').trans m11).trans ((Off.new np12).trans o13))
/-! ### section -/
def spSect : Sp := fun vs H Q _ => ∃ (a gr c : Addr) (n d : Int) (wv : V) (ws : List (Int × Int)), vs = [.ref a, wv, .int d] ∧ WT H wv ws ∧ 1 ≤ d ∧ d ≤ 2 ∧ LN a gr c n H ∧ n + 200 ≤ BigT ∧
  ∀ (H' : Hp) (v : V) (s : List Int × List Int), TD H' v (secD s) → SecOk s → (s.2.length : Int) = d → LN a gr c (n + 200) H' → Off (SF a gr c) H H' → Q v H'
abbrev NSe : List Str := ["_law_state", "_law_wires", "_law_doors", "_law_cells", "_law_heads", "_law_turn", "_law_entries", "_law_spot"]
theorem sc_sect : FnScope NSe ["_law_state", "_law_wires", "_law_doors"] (defScope (top 45)) := ⟨rfl, rfl, rfl, by decide +kernel, rfl, by decide +kernel, by decide +kernel⟩
theorem ok_sect (T : Txt K mg) : DefOk P w K mg base CX0 6 "_law_section" ["_law_state", "_law_wires", "_law_doors"] spSect := by
  have D_law_draw := ok_draw (P := P) (w := w) (base := base) T
  have D_law_pick := ok_pick (P := P) (w := w) (base := base) T
  have D_law_small := ok_small (P := P) (w := w) (base := base) T
  have D_law_piece := ok_piece (P := P) (w := w) (base := base) T
  refine def0 (i := 24) (j := 24) (n := 45) (N := NSe) T rfl rfl sc_sect (fun _ _ _ _ _ _ us hl => match us, hl with | [_, _, _], _ => rfl) (fun vs H Q E h => ?_) (fun cdv A outer s H vs Q E hr h => ?_)
  · obtain ⟨_, _, _, _, _, _, _, rfl, _⟩ := h
    rfl
  · obtain ⟨a, gr, c, n, d, wv, ws, rfl, hw, d0, d1, hs, hn, q⟩ := h
    have nd := sc_sect.nd
    refine ⟨_, (pss_cons (ps_asg (pe_tup (pa_cons (pe_lst pa_nil) (pa_cons (pe_lst pa_nil) pa_nil))) (pg_tup rfl (pgs_cons (pg_name (i := 3) nd rfl (Or.inl rfl)) (pgs_cons (pg_name (i := 4) nd rfl (Or.inr rfl)) pgs_nil))))
    (pss_cons (ps_for PassesOwn.never rfl (pi_range1 rfl T.f_range (pa_cons (pe_def D_law_pick (hr.mono (by decide)) rfl (pa_cons (pv 0) (pa_cons (pe_lst (pa_cons pe_int (pa_cons pe_int (pa_cons pe_int (pa_cons pe_int pa_nil))))) pa_nil))) pa_nil)) (pg_name (i := 5) nd rfl (Or.inl rfl)) (pss_cons (ps_expr (pe_bm PySem.F.plainAttrs_list PySem.F.slot_list_append PySem.F.type_list_append mt_append (pv 4) (pa_cons (pe_cB (id := "len") call_len (by rfl) T.f_len PySem.boot_len (pv 3)) pa_nil)))
      (pss_one (ps_set (i := 3) nd rfl (Or.inl rfl) (pe_op op_cat (pv 3) (pe_def D_law_piece (hr.mono (by decide)) rfl (pa_cons (pv 0) (pa_cons (pv 1) (pa_cons pe_int pa_nil)))))))))
    (pss_cons (ps_set (i := 3) nd rfl (Or.inl rfl) (pe_op op_cat (pe_op op_cat (pv 3) (pe_lst (pa_cons pe_int pa_nil))) (pe_lc (own := [("_law_spot", 7)]) rfl nd (pi_range1 rfl T.f_range (pa_cons (pe_def D_law_draw (hr.mono (by decide)) rfl (pa_cons (pv 0) (pa_cons pe_int pa_nil))) pa_nil)) (blkOk_by (N := ["_law_state", "_law_wires", "_law_doors", "_law_cells", "_law_heads", "_law_turn", "_law_entries", "_law_spot"]) (sc := defScope (top 45)) (by decide +kernel)) (fun _ _ _ _ _ => by exact (pg_name (i := 7) nd rfl (Or.inl rfl))) (fun _ _ _ _ _ => by exact pts_nil) (fun _ _ _ _ _ => by exact (pe_def D_law_small (hr.mono (by decide)) rfl (pa_cons (pv 0) pa_nil))))))
    (pss_cons (ps_expr (pe_bm PySem.F.plainAttrs_list PySem.F.slot_list_append PySem.F.type_list_append mt_append (pv 4) (pa_cons pe_int pa_nil)))
    (pss_cons (ps_setLc (i := 6) (own := [("_law_spot", 7)]) rfl nd rfl rfl (sw_true rfl rfl rfl (by decide +kernel)) (pi_range1 rfl T.f_range (pa_cons (pv 2) pa_nil)) (blkOk_by (N := ["_law_state", "_law_wires", "_law_doors", "_law_cells", "_law_heads", "_law_turn", "_law_entries", "_law_spot"]) (sc := defScope (top 45)) (by decide +kernel)) (fun _ _ _ _ _ => by exact (pg_name (i := 7) nd rfl (Or.inl rfl))) (fun _ _ _ _ _ => by exact pts_nil) (fun _ _ _ _ _ => by exact (pe_ifExp (pt_cmpR op_gt (pe_def D_law_draw (hr.mono (by decide)) rfl (pa_cons (pv 0) (pa_cons pe_int pa_nil))) pe_int (nomark _)) (pe_def D_law_pick (hr.mono (by decide)) rfl (pa_cons (pv 0) (pa_cons (pv 4) pa_nil))) (pe_def D_law_draw (hr.mono (by decide)) rfl (pa_cons (pv 0) (pa_cons pe_int pa_nil))))))
    (pss_one (ps_ret (pe_tup (pa_cons (pe_cT (T := "tuple") call_tuple rfl T.f_tuple (by decide +kernel) (pv 3)) (pa_cons (pe_cT (T := "tuple") call_tuple rfl T.f_tuple (by decide +kernel) (pv 6)) pa_nil)))))))))), ?_⟩
    refine ⟨Nat.le_of_ble_eq_true rfl, fun p1 np1 => ⟨Nat.le_of_ble_eq_true rfl, fun p2 np2 => ⟨Nat.le_of_ble_eq_true rfl, fun t nt => ⟨t, _, rfl, SqT.of upd_same, rfl, _, _, rfl, _, _, rfl, rfl, ?_⟩⟩⟩⟩
    obtain ⟨M1, m1, r1⟩ := nl (l := []) hs np1 nn
    obtain ⟨M2, m2, r2⟩ := nl (l := []) M1 np2 nn
    have m3 : Off (SF a gr c) _ _ := Off.new (o := .tup [.ref p1, .ref p2]) nt
    have M3 := M2.same (same_new (o := .tup [.ref p1, .ref p2]) nt)
    have oA := (m1.trans m2).trans m3
    have rc := (r1.off m2).off m3
    have h2 : H p2 = none := same_none (same_new np1) np2
    have n2 : ¬ SF a gr c p2 := hs.out h2
    have hh := m3.at (o := .lst []) upd_same n2
    have ne12 : p1 ≠ p2 := ne_of_none upd_same np2
    refine ⟨_, rfl, Nat.le_of_ble_eq_true rfl, fun p np => ⟨a, gr, c, p, _, [.int 4, .int 7, .int 10, .int 1], rfl, .inl ⟨upd_same, M3.out np⟩, Nat.le_of_ble_eq_true rfl, Nat.le_of_ble_eq_true rfl, M3.same (same_new np), by omega, fun H4 x hx L4 o4 => ?_⟩⟩
    obtain ⟨z, hz, rfl⟩ := int_of (l := [4, 7, 10, 1]) hx
    have hz' : 1 ≤ z ∧ z ≤ 10 := by
      simp only [List.mem_cons, List.not_mem_nil, or_false] at hz
      omega
    have oB := (oA.trans (Off.new (o := .lst [.int 4, .int 7, .int 10, .int 1]) np)).trans o4
    have rc4 := (rc.off (Off.new (o := .lst [.int 4, .int 7, .int 10, .int 1]) np)).off o4
    have hh4 := ((Off.new (F := SF a gr c) (o := .lst [.int 4, .int 7, .int 10, .int 1]) np).trans o4).at hh n2
    refine ⟨z, rfl, by omega, by omega, for_it walk_range (fun i σ H' => ∃ (cp : Addr) (hl : List Int) (tv : Option V), σ = [some (.ref a), some wv, some (.int d), some (.ref cp), some (.ref p2), tv, none, none] ∧ RL a gr c H' cp 0 (10 * i) ∧ IL H' p2 hl ∧ hl.length = i ∧ (∀ z ∈ hl, Num z) ∧ cp ≠ p2 ∧ LN a gr c (n + 1 + 10 * i) H' ∧ Off (SF a gr c) H H')
      ⟨p1, [], none, rfl, rc4.wide (Nat.le_refl 0) (Nat.zero_le _), hh4, rfl, nn, ne12, L4.le (by omega), oB⟩ (fun _ _ _ _ _ => trivial) ?_ ?_⟩
    · rintro i x σ H5 H6 hi ⟨cp, hl, tv, rfl, rc5, hh5, ll, hn5, ne5, L5, o5⟩ ⟨rfl, rfl⟩
      refine ⟨_, rfl, .inl ⟨rfl, _, SqL.of hh5⟩, _, rfl, rd_lenR rc5 fun m m0 m1 => ⟨_, _, _, rfl, rfl, hh5, ?_, ?_⟩⟩
      · rw [List.length_map]
        show hl.length < 16777216
        omega
      have L7 : LN a gr c (n + 1 + 10 * i) (upd H6 p2 (.lst (hl.map V.int ++ [.int (m : Int)]))) := L5.off (F := fun b => b = p2) (Off.upd rfl (lst_not hh5)) fun b hb e => n2 (e ▸ hb)
      have rc7 : RL a gr c (upd H6 p2 (.lst (hl.map V.int ++ [.int (m : Int)]))) cp 0 (10 * i) := by
        obtain ⟨l, e1, e2⟩ := rc5
        exact ⟨l, keep_upd (Ne.symm ne5) _ e1, e2⟩
      have o7 : Off (SF a gr c) H (upd H6 p2 (.lst (hl.map V.int ++ [.int (m : Int)]))) := fun b v e ke => by
        rw [upd_ne (ne_of_none e h2)]
        exact o5 b v e ke
      have hh7 : IL (upd H6 p2 (.lst (hl.map V.int ++ [.int (m : Int)]))) p2 (hl ++ [(m : Int)]) := by
        show (upd H6 p2 _) p2 = _
        rw [upd_same, List.map_append]
        rfl
      refine ⟨_, rfl, _, rfl, _, rfl, a, gr, c, _, wv, ws, rfl, hw.kt o7.kt, L7, by omega, fun H8 p8 r8 L8 o8 => ?_⟩
      have hh8 := o8.at hh7 n2
      refine rd_cat (rc7.off o8) r8 (by omega) L8 fun r H9 nr L9 o9 _ r9 => ⟨r, hl ++ [(m : Int)], _, rfl, r9.wide (Nat.le_refl 0) (by omega), o9.at hh8 n2, ?_, ?_, (ne_of_none hh8 nr).symm, L9.le (by omega), (o7.trans o8).trans o9⟩
      · rw [List.length_append, ll]
        rfl
      · intro y hy
        rcases List.mem_append.mp hy with hy | hy
        · exact hn5 y hy
        · rw [List.mem_singleton.mp hy]
          exact ⟨by omega, by omega⟩
    rintro σ H5 ⟨cp, hl, tv, rfl, rc5, hh5, ll, hn5, ne5, L5, o5⟩
    have hzz : (z.toNat : Int) = z := Int.toNat_of_nonneg (by omega)
    refine ⟨_, rfl, Nat.le_of_ble_eq_true rfl, fun p6 np6 => ?_⟩
    obtain ⟨M6, m6, r6⟩ := nl (l := [9005]) L5 np6 (nc (by decide) (by decide) nn)
    refine rd_cat (rc5.off m6) r6 (by show 10 * z.toNat + 1 ≤ 1000000; omega) M6 fun r7 H7 nr7 L7 o7 _ s7 => ?_
    refine ⟨_, rfl, a, gr, c, _, 6, rfl, L7, by omega, by decide, by decide, fun H8 k8 k80 k81 L8 o8 => ⟨k8, rfl, by omega, by omega, fun D nD => lc_it walk_range (fun i H' => LP a gr c H8 (n + 1 + 10 * (z.toNat : Int) + 1) 2 D i H') (LP.start L8 nD) (fun _ _ _ _ => trivial) ?_ ?_⟩⟩
    · rintro i x H3 H4 hi h ⟨rfl, rfl⟩
      obtain ⟨_, L3, _⟩ := h.fin L8 nD
      exact ⟨rfl, _, rfl, a, gr, c, _, rfl, L3, by omega, fun H5 k kn L5 o5 => LP.step h L8 nD o5 L5 (by omega) kn (by omega)⟩
    rintro H9 h
    obtain ⟨r9, L9, o9⟩ := h.fin L8 nD
    have oC := ((((o5.trans m6).trans o7).trans o8).trans o9)
    have hh9 := (((m6.trans o7).trans o8).trans o9).at hh5 n2
    refine rd_cat ((s7.off o8).off o9) r9 (by show 10 * z.toNat + [9005].length + k8.toNat ≤ 1000000; have : ([9005] : List Int).length = 1 := rfl; omega) L9 fun r10 H10 nr10 L10 o10 _ s10 => ?_
    have hh10 := o10.at hh9 n2
    have ne10 : r10 ≠ p2 := (ne_of_none hh9 nr10).symm
    refine ⟨_, rfl, .inl ⟨rfl, _, SqL.of hh10⟩, _, _, _, rfl, rfl, hh10, ?_, ?_⟩
    · rw [List.length_map]
      show hl.length < 16777216
      omega
    have L11 : LN a gr c _ (upd H10 p2 (.lst (hl.map V.int ++ [.int 0]))) := L10.off (F := fun b => b = p2) (Off.upd rfl (lst_not hh10)) fun b hb e => n2 (e ▸ hb)
    have rc11 : RL a gr c (upd H10 p2 (.lst (hl.map V.int ++ [.int 0]))) r10 1 106 := by
      obtain ⟨l, e1, e2, e3, e4, e5⟩ := s10
      have : ([9005] : List Int).length = 1 := rfl
      exact ⟨l, keep_upd (Ne.symm ne10) _ e1, e2, by omega, by omega, e5⟩
    have o11 : Off (SF a gr c) H (upd H10 p2 (.lst (hl.map V.int ++ [.int 0]))) := fun b v e ke => by
      rw [upd_ne (ne_of_none e h2)]
      exact (oC.trans o10) b v e ke
    have hh11 : (upd H10 p2 (.lst (hl.map V.int ++ [.int 0]))) p2 = some (.lst (hl.map V.int ++ [.int 0])) := upd_same
    generalize upd H10 p2 (.lst (hl.map V.int ++ [.int 0])) = H11 at L11 rc11 o11 hh11 ⊢
    have L12 : LN a gr c (n + 120) H11 := L11.le (by omega)
    clear L11
    refine ⟨_, rfl, d, rfl, by omega, by omega, fun D2 nD2 => lc_it walk_range (fun i H' => LP a gr c H11 (n + 120) 2 D2 i H') (LP.start L12 nD2) (fun _ _ _ _ => trivial) ?_ ?_⟩
    · rintro i x H3 H4 hi h ⟨rfl, rfl⟩
      obtain ⟨_, L3, o3⟩ := h.fin L12 nD2
      refine ⟨rfl, _, rfl, a, gr, c, _, 9, rfl, L3, by omega, by decide, by decide, fun H5 k k0 k1 L5 o5 => ⟨_, _, rfl, rfl, _, rfl, ite_dec (fun _ => ?_) fun _ => ?_⟩⟩
      · have hh5 := (o3.trans o5).at hh11 n2
        refine ⟨_, rfl, _, rfl, a, gr, c, p2, _, _, rfl, .inl ⟨hh5, n2⟩, ?_, ?_, L5, by omega, fun H6 x hx L6 o6 => ?_⟩
        · rw [List.length_append]
          exact Nat.lt_of_lt_of_le Nat.zero_lt_one (Nat.le_add_left _ _)
        · rw [List.length_append, List.length_map]
          show hl.length + 1 < 1000000
          omega
        · have hx2 : x ∈ (hl ++ [0]).map V.int := by
            rw [List.map_append]
            exact hx
          obtain ⟨y, hy, rfl⟩ := int_of hx2
          refine LP.step h L12 nD2 (o5.trans o6) L6 (by omega) ?_ (by omega)
          rcases List.mem_append.mp hy with hy | hy
          · exact hn5 y hy
          · rw [List.mem_singleton.mp hy]
            exact ⟨by decide, by decide⟩
      · exact ⟨_, rfl, a, gr, c, _, 60, rfl, L5, by omega, by decide, by decide, fun H6 y y0 y1 L6 o6 => LP.step h L12 nD2 (o5.trans o6) L6 (by omega) ⟨y0, by omega⟩ (by omega)⟩
    rintro H13 h
    obtain ⟨r13, L13, o13⟩ := h.fin L12 nD2
    obtain ⟨ce, e1, e2, e3, e4, e5⟩ := rc11.off o13
    obtain ⟨en, f1, f2, f3, f4, f5⟩ := r13
    refine ⟨_, rfl, rd_tupL e1 fun pa npa => ⟨_, rfl, rd_tupL ((same_new npa) _ _ f1) fun pb npb => ⟨Nat.le_of_ble_eq_true rfl, fun pc npc => ?_⟩⟩⟩
    have k1 := same_new (o := .tup (ce.map V.int)) npa
    have k2 := same_new (o := .tup (en.map V.int)) npb
    have k3 := same_new (o := .tup [.ref pa, .ref pb]) npc
    have dd : (d.toNat : Int) = d := Int.toNat_of_nonneg (by omega)
    refine q _ _ (ce, en) (.tup upd_same (.cons (TD.ofInts (k3 _ _ (k2 _ _ upd_same))) (.cons (TD.ofInts (k3 _ _ upd_same)) .nil))) ⟨⟨e3, Nat.le_trans e4 (by decide), e2⟩, by show 1 ≤ en.length; omega, by show en.length ≤ 6; omega, f2⟩ (by show (en.length : Int) = d; omega) ((((L13.same k1).same k2).same k3).le (by omega)) ?_
    exact (o11.trans o13).trans (Off.same (sm_tr k1 (sm_tr k2 k3)))
end K25
set_option maxHeartbeats 2000000
/-! the law: counting, wired -/
namespace K25
open PySem PySem.Spec PyProof.Rows L2 He
variable {P : Program} {w : World} {K : PySem.W.Frag} {mg : Str → Option Value} {base : Heap}
/-- what both makers of sections promise -/
abbrev NCo : List Str := ["_law_state", "_law_wires", "_law_doors", "_law_cells", "_law_entries", "_law_door", "_law_head", "_law_turn", "_law_to", "_law_way", "_law_spot"]
theorem sc_count : FnScope NCo ["_law_state", "_law_wires", "_law_doors"] (defScope (top 49)) := ⟨rfl, rfl, rfl, by decide +kernel, rfl, by decide +kernel, by decide +kernel⟩
theorem ok_count (T : Txt K mg) : DefOk P w K mg base CX0 6 "_law_counting" ["_law_state", "_law_wires", "_law_doors"] spSect := by
  have D_law_draw := ok_draw (P := P) (w := w) (base := base) T
  have D_law_pick := ok_pick (P := P) (w := w) (base := base) T
  have D_law_small := ok_small (P := P) (w := w) (base := base) T
  have D_law_counting_piece := ok_cpiece (P := P) (w := w) (base := base) T
  refine def0 (i := 28) (j := 28) (n := 49) (N := NCo) T rfl rfl sc_count (fun _ _ _ _ _ _ us hl => match us, hl with | [_, _, _], _ => rfl) (fun vs H Q E h => ?_) (fun cdv A outer s H vs Q E hr h => ?_)
  · obtain ⟨_, _, _, _, _, _, _, rfl, _⟩ := h
    rfl
  · obtain ⟨a, gr, c, n, d, wv, ws, rfl, hw, d0, d1, hs, hn, q⟩ := h
    have nd := sc_count.nd
    refine ⟨_, (pss_cons (ps_par (i := 3) (j := 4) (by rfl) nd rfl rfl (by decide) rfl rfl (pa_cons (pe_lc (own := [("_law_spot", 10)]) rfl nd (pi_range1 rfl T.f_range (pa_cons pe_int pa_nil)) (blkOk_by (N := ["_law_state", "_law_wires", "_law_doors", "_law_cells", "_law_entries", "_law_door", "_law_head", "_law_turn", "_law_to", "_law_way", "_law_spot"]) (sc := defScope (top 49)) (by decide +kernel)) (fun _ _ _ _ _ => by exact (pg_name (i := 10) nd rfl (Or.inl rfl))) (fun _ _ _ _ _ => by exact pts_nil) (fun _ _ _ _ _ => by exact (pe_def D_law_small (hr.mono (by decide)) rfl (pa_cons (pv 0) pa_nil)))) (pa_cons (pe_lst pa_nil) pa_nil)) (by rfl))
    (pss_cons (ps_for PassesOwn.never rfl (pi_range1 rfl T.f_range (pa_cons (pv 2) pa_nil)) (pg_name (i := 5) nd rfl (Or.inl rfl)) (pss_cons (ps_set (i := 6) nd rfl (Or.inl rfl) (pe_cB (id := "len") call_len (by rfl) T.f_len PySem.boot_len (pv 3)))
      (pss_cons (ps_expr (pe_bm PySem.F.plainAttrs_list PySem.F.slot_list_append PySem.F.type_list_append mt_append (pv 4) (pa_cons (pv 6) pa_nil)))
      (pss_cons (ps_set (i := 3) nd rfl (Or.inl rfl) (pe_op op_cat (pv 3) (pe_lst (pa_cons pe_int (pa_cons (pe_op op_add (pv 6) pe_int) (pa_cons pe_int (pa_cons (pe_op op_add pe_int (pe_def D_law_draw (hr.mono (by decide)) rfl (pa_cons (pv 0) (pa_cons pe_int pa_nil)))) (pa_cons pe_int (pa_cons pe_int (pa_cons pe_int pa_nil))))))))))
      (pss_cons (ps_for PassesOwn.never rfl (pi_range1 rfl T.f_range (pa_cons (pe_def D_law_pick (hr.mono (by decide)) rfl (pa_cons (pv 0) (pa_cons (pe_lst (pa_cons pe_int (pa_cons pe_int (pa_cons pe_int (pa_cons pe_int pa_nil))))) pa_nil))) pa_nil)) (pg_name (i := 7) nd rfl (Or.inl rfl)) (pss_cons (ps_set (i := 3) nd rfl (Or.inl rfl) (pe_op op_cat (pv 3) (pe_def D_law_counting_piece (hr.mono (by decide)) rfl (pa_cons (pv 0) pa_nil))))
        (pss_one (ps_if (pt_cmpR (op_neD (u64 hr)) (pv 1) (pe_tup pa_nil) (nomark _)) (pss_cons (ps_asg (pe_def D_law_pick (hr.mono (by decide)) rfl (pa_cons (pv 0) (pa_cons (pv 1) pa_nil))) (pg_tup rfl (pgs_cons (pg_name (i := 8) nd rfl (Or.inl rfl)) (pgs_cons (pg_name (i := 9) nd rfl (Or.inl rfl)) pgs_nil))))
          (pss_one (ps_set (i := 3) nd rfl (Or.inl rfl) (pe_op op_cat (pv 3) (pe_lst (pa_cons pe_int (pa_cons (pv 8) (pa_cons pe_int (pa_cons (pv 9) (pa_cons (pe_op op_add pe_int (pe_def D_law_draw (hr.mono (by decide)) rfl (pa_cons (pv 0) (pa_cons pe_int pa_nil)))) pa_nil)))))))))) pss_nil))))
      (pss_one (ps_set (i := 3) nd rfl (Or.inl rfl) (pe_op op_cat (pe_op op_cat (pv 3) (pe_def D_law_counting_piece (hr.mono (by decide)) rfl (pa_cons (pv 0) pa_nil))) (pe_lst (pa_cons (pe_op op_add pe_int (pe_def D_law_draw (hr.mono (by decide)) rfl (pa_cons (pv 0) (pa_cons pe_int pa_nil)))) pa_nil))))))))))
    (pss_one (ps_ret (pe_tup (pa_cons (pe_cT (T := "tuple") call_tuple rfl T.f_tuple (by decide +kernel) (pv 3)) (pa_cons (pe_cT (T := "tuple") call_tuple rfl T.f_tuple (by decide +kernel) (pv 4)) pa_nil))))))), ?_⟩
    refine ⟨_, rfl, by decide, by decide, fun D nD => lc_it walk_range (fun i H' => LP a gr c H n 2 D i H') (LP.start hs nD) (fun _ _ _ _ => trivial) ?_ ?_⟩
    · rintro i x H3 H4 hi h ⟨rfl, rfl⟩
      have hi : i < 4 := hi
      obtain ⟨_, L3, _⟩ := h.fin hs nD
      exact ⟨rfl, _, rfl, a, gr, c, _, rfl, L3, by omega, fun H5 k kn L5 o5 => LP.step h hs nD o5 L5 (by omega) kn (by omega)⟩
    rintro H1 h
    obtain ⟨r1, L1, o1⟩ := h.fin hs nD
    have L1 : LN a gr c (n + 8) H1 := L1.le (by have : (((4 : Int).toNat : Nat) : Int) = 4 := rfl; omega)
    have r1 : RL a gr c H1 D 4 4 := r1
    refine ⟨Nat.le_of_ble_eq_true rfl, fun p2 np2 => ⟨_, _, rfl, ?_⟩⟩
    obtain ⟨M2, m2, r2⟩ := nl (l := []) L1 np2 nn
    have h2 : H p2 = none := o1.free np2 (L1.out np2)
    have n2 : ¬ SF a gr c p2 := hs.out h2
    have hh : IL (upd H1 p2 (.lst ([].map V.int))) p2 [] := upd_same
    have ne12 : D ≠ p2 := by
      obtain ⟨l, e1, _⟩ := r1
      exact ne_of_none e1 np2
    refine ⟨_, rfl, d, rfl, by omega, by omega, for_it walk_range (fun i σ H' => ∃ (cp : Addr) (el : List Int) (o1 o2 o3 o4 o5 : Option V), σ = [some (.ref a), some wv, some (.int d), some (.ref cp), some (.ref p2), o1, o2, o3, o4, o5, none] ∧ RL a gr c H' cp 4 (4 + 50 * i) ∧ IL H' p2 el ∧ el.length = i ∧ (∀ z ∈ el, Num z) ∧ cp ≠ p2 ∧ LN a gr c (n + 8 + 40 * i) H' ∧ Off (SF a gr c) H H')
      ⟨D, [], none, none, none, none, none, rfl, r1.off m2, hh, rfl, nn, ne12, M2.le (by omega), o1.trans m2⟩ (fun _ _ _ _ _ => trivial) ?_ ?_⟩
    · rintro i x σ H3 H4 hi ⟨cp, el, u1, u2, u3, u4, u5, rfl, rc, he, ll, hen, ne, L4, o4⟩ ⟨rfl, rfl⟩
      have hi2 : (i : Int) < 2 := by omega
      refine ⟨_, rfl, rd_lenR rc fun m m0 m1 => ⟨_, rfl, .inl ⟨rfl, _, SqL.of he⟩, _, rfl, _, _, _, rfl, rfl, he, ?_, ?_⟩⟩
      · rw [List.length_map]
        show el.length < 16777216
        omega
      have L5 : LN a gr c (n + 8 + 40 * i) (upd H4 p2 (.lst (el.map V.int ++ [.int (m : Int)]))) := L4.off (F := fun b => b = p2) (Off.upd rfl (lst_not he)) fun b hb e => n2 (e ▸ hb)
      have rc5 : RL a gr c (upd H4 p2 (.lst (el.map V.int ++ [.int (m : Int)]))) cp 4 (4 + 50 * i) := by
        obtain ⟨l, e1, e2⟩ := rc
        exact ⟨l, keep_upd (Ne.symm ne) _ e1, e2⟩
      have o5 : Off (SF a gr c) H (upd H4 p2 (.lst (el.map V.int ++ [.int (m : Int)]))) := fun b v e ke => by
        rw [upd_ne (ne_of_none e h2)]
        exact o4 b v e ke
      have he5 : IL (upd H4 p2 (.lst (el.map V.int ++ [.int (m : Int)]))) p2 (el ++ [(m : Int)]) := by
        show (upd H4 p2 _) p2 = _
        rw [upd_same, List.map_append]
        rfl
      have hen5 : ∀ z ∈ el ++ [(m : Int)], Num z := fun y hy => by
        rcases List.mem_append.mp hy with hy | hy
        · exact hen y hy
        · rw [List.mem_singleton.mp hy]
          exact ⟨by omega, by omega⟩
      have ll5 : (el ++ [(m : Int)]).length = i + 1 := by
        rw [List.length_append, ll]
        rfl
      generalize upd H4 p2 (.lst (el.map V.int ++ [.int (m : Int)])) = H5 at L5 rc5 o5 he5 ⊢
      generalize el ++ [(m : Int)] = el5 at he5 hen5 ll5
      clear he hen ll rc L4 o4
      -- the head of a door
      refine ⟨_, rfl, _, rfl, _, _, rfl, rfl, _, rfl, a, gr, c, _, 5, rfl, L5, by omega, by decide, by decide, fun H6 k6 k60 k61 L6 o6 => ⟨_, _, rfl, rfl, Nat.le_of_ble_eq_true rfl, fun p7 np7 => ?_⟩⟩
      obtain ⟨M7, m7, r7⟩ := nl (l := [1800, (m : Int) + 4, 8080, 9005 + k6, 1500, 1, 5005]) L6 np7 (nc (by decide) (by decide) (nc (by omega) (by omega) (nc (by decide) (by decide) (nc (by omega) (by omega) (nc (by decide) (by decide) (nc (by decide) (by decide) (nc (by decide) (by decide) nn)))))))
      refine rd_cat ((rc5.off o6).off m7) r7 (by show 4 + 50 * i + 7 ≤ 1000000; omega) M7 fun r8 H8 nr8 L8 o8 _ s8 => ?_
      have s8 : RL a gr c H8 r8 11 (4 + 50 * i + 7) := s8
      have o58 := (o6.trans m7).trans o8
      have he8 := o58.at he5 n2
      have ne8 : r8 ≠ p2 := (ne_of_none (((o6.trans m7).at he5 n2)) nr8).symm
      refine ⟨_, rfl, Nat.le_of_ble_eq_true rfl, fun p np => ⟨a, gr, c, p, _, [.int 1, .int 2, .int 1, .int 3], rfl, .inl ⟨upd_same, L8.out np⟩, Nat.le_of_ble_eq_true rfl, Nat.le_of_ble_eq_true rfl, L8.same (same_new np), by omega, fun H9 x hx L9 o9 => ?_⟩⟩
      obtain ⟨z, hz, rfl⟩ := int_of (l := [1, 2, 1, 3]) hx
      have hz' : 1 ≤ z ∧ z ≤ 3 := by
        simp only [List.mem_cons, List.not_mem_nil, or_false] at hz
        omega
      have o89 := (Off.new (F := SF a gr c) (o := .lst [.int 1, .int 2, .int 1, .int 3]) np).trans o9
      refine ⟨z, rfl, by omega, by omega, for_it walk_range (fun j σ H' => ∃ (cp : Addr) (o1 o2 o3 : Option V), σ = [some (.ref a), some wv, some (.int d), some (.ref cp), some (.ref p2), some (.int (0 + (i : Int))), some (.int (m : Int)), o1, o2, o3, none] ∧ RL a gr c H' cp 4 (4 + 50 * i + 7 + 9 * j) ∧ IL H' p2 el5 ∧ cp ≠ p2 ∧ LN a gr c (n + 8 + 40 * i + 2 + 7 * j) H' ∧ Off (SF a gr c) H H')
        ⟨r8, _, _, _, rfl, (s8.off o89).wide (by decide) (Nat.le_refl _), o89.at he8 n2, ne8, L9.le (by omega), (o5.trans o58).trans o89⟩ (fun _ _ _ _ _ => trivial) ?_ ?_⟩
      · rintro j x σ HA HB hj ⟨cp2, v1, v2, v3, rfl, rcB, heB, neB, LB, oB⟩ ⟨rfl, rfl⟩
        have hj3 : (j : Int) < 3 := by omega
        refine ⟨_, rfl, _, rfl, a, gr, c, _, rfl, LB, by omega, fun HC pC rC LC oC => rd_cat (rcB.off oC) rC (by omega) LC fun r HD nr LD oD _ rD => ?_⟩
        have heD := (oC.trans oD).at heB n2
        have neD : r ≠ p2 := (ne_of_none (oC.at heB n2) nr).symm
        have oHD := (oB.trans oC).trans oD
        obtain ⟨wp, xs, e, hwp, txs⟩ := (hw.kt oHD.kt).1.inv
        subst e
        refine ⟨_, rfl, Nat.le_of_ble_eq_true rfl, fun q1 nq1 => ⟨.tuple (ws.map pairD), .tuple [], .tup (SqT.of ((same_new nq1) _ _ hwp)) (txs.kt (Same.kt (same_new nq1))).dp, .tup (SqT.of upd_same) .nil, hw.shaped, by rfl, ?_⟩⟩
        rw [eqv_nilT]
        have mE : Off (SF a gr c) HD _ := Off.new (o := .tup []) nq1
        have LE := LD.same (same_new (o := .tup []) nq1)
        have hwpE := (same_new (o := .tup []) nq1) _ _ hwp
        have txsE := txs.kt (Same.kt (same_new (o := .tup []) nq1))
        have heE := mE.at heD n2
        refine ⟨_, rfl, ?_⟩
        cases ws with
        | nil => exact iteF ⟨r, _, _, _, rfl, (rD.off mE).wide (by omega) (by omega), heE, neD, LE.le (by omega), oHD.trans mE⟩
        | cons w0 ws =>
          have lx := txs.lenMap
          have lw : (w0 :: ws).length = ws.length + 1 := rfl
          have hw8 := hw.2.1
          refine iteT ⟨_, rfl, _, rfl, a, gr, c, wp, _, xs, rfl, .inr hwpE, by omega, by omega, LE, by omega, fun HF x hx LF oF => ?_⟩
          obtain ⟨pr, hpr, b, rfl, hb⟩ := pick_wire txsE hx
          obtain ⟨n1, n2'⟩ := hw.2.2 pr hpr
          refine ⟨b, _, rfl, SqT.of (oF.tup hb), rfl, _, _, rfl, _, _, rfl, rfl, ?_⟩
          refine ⟨_, rfl, _, rfl, _, rfl, _, rfl, a, gr, c, _, 5, rfl, LF, by omega, by decide, by decide, fun HG kG kG0 kG1 LG oG => ⟨_, _, rfl, rfl, Nat.le_of_ble_eq_true rfl, fun pH npH => ?_⟩⟩
          obtain ⟨MH, mH, rH⟩ := nl (l := [1100, pr.1, 1200, pr.2, 9120 + kG]) LG npH (nc (by decide) (by decide) (ncN n1 (nc (by decide) (by decide) (ncN n2' (nc (by omega) (by omega) nn)))))
          refine rd_cat ((((rD.off mE).off oF).off oG).off mH) rH (by show 4 + 50 * i + 7 + 9 * j + 4 + 5 ≤ 1000000; omega) MH fun rI HI nrI LI oI _ sI => ?_
          have oEI := (oF.trans oG).trans mH
          refine ⟨rI, _, _, _, rfl, sI.wide (by omega) (by show 4 + 50 * i + 7 + 9 * j + 4 + 5 ≤ _; omega), (oEI.trans oI).at heE n2, (ne_of_none (oEI.at heE n2) nrI).symm, LI.le (by omega), ((oHD.trans mE).trans oEI).trans oI⟩
      · rintro σ HA ⟨cp2, v1, v2, v3, rfl, rcA, heA, neA, LA, oA⟩
        have zz : (z.toNat : Int) = z := Int.toNat_of_nonneg (by omega)
        refine ⟨_, rfl, _, rfl, a, gr, c, _, rfl, LA, by omega, fun HC pC rC LC oC => rd_cat (rcA.off oC) rC (by omega) LC fun r HD nr LD oD _ rD => ?_⟩
        refine ⟨_, rfl, a, gr, c, _, 5, rfl, LD, by omega, by decide, by decide, fun HG kG kG0 kG1 LG oG => ⟨_, _, rfl, rfl, Nat.le_of_ble_eq_true rfl, fun pH npH => ?_⟩⟩
        obtain ⟨MH, mH, rH⟩ := nl (l := [9005 + kG]) LG npH (nc (by omega) (by omega) nn)
        refine rd_cat ((rD.off oG).off mH) rH (by show 4 + 50 * i + 7 + 9 * z.toNat + 4 + 1 ≤ 1000000; omega) MH fun rI HI nrI LI oI _ sI => ?_
        have oAI := ((oC.trans oD).trans oG).trans mH
        exact ⟨rI, el5, _, _, _, _, _, rfl, sI.wide (by omega) (by show 4 + 50 * i + 7 + 9 * z.toNat + 4 + 1 ≤ _; omega), (oAI.trans oI).at heA n2, ll5, hen5, (ne_of_none (oAI.at heA n2) nrI).symm, LI.le (by omega), (oA.trans oAI).trans oI⟩
    rintro σ H13 ⟨cp, el, u1, u2, u3, u4, u5, rfl, rc, he, ll, hen, ne, L13, o13⟩
    obtain ⟨ce, e1, e2, e3, e4, e5⟩ := rc
    refine ⟨_, rfl, rd_tupL e1 fun pa npa => ⟨_, rfl, rd_tupL ((same_new npa) _ _ he) fun pb npb => ⟨Nat.le_of_ble_eq_true rfl, fun pc npc => ?_⟩⟩⟩
    have k1 := same_new (o := .tup (ce.map V.int)) npa
    have k2 := same_new (o := .tup (el.map V.int)) npb
    have k3 := same_new (o := .tup [.ref pa, .ref pb]) npc
    have dd : (d.toNat : Int) = d := Int.toNat_of_nonneg (by omega)
    refine q _ _ (ce, el) (.tup upd_same (.cons (TD.ofInts (k3 _ _ (k2 _ _ upd_same))) (.cons (TD.ofInts (k3 _ _ upd_same)) .nil))) ⟨⟨Nat.le_trans (by decide) e3, by show ce.length ≤ 200; omega, e2⟩, by show 1 ≤ el.length; omega, by show el.length ≤ 6; omega, hen⟩ (by show (el.length : Int) = d; omega) ((((L13.same k1).same k2).same k3).le (by omega)) ?_
    exact o13.trans (Off.same (sm_tr k1 (sm_tr k2 k3)))
end K25
set_option maxHeartbeats 2000000
/-! the law: wired -/
namespace K25
open PySem PySem.Spec PyProof.Rows L2 He
variable {P : Program} {w : World} {K : PySem.W.Frag} {mg : Str → Option Value} {base : Heap}
theorem TDs.take {H : Hp} : ∀ {vs : List V} {ds : List PyData} (k : Nat), TDs H vs ds → TDs H (vs.take k) (ds.take k)
  | _, _, 0, _ => by
    rw [List.take_zero, List.take_zero]
    exact .nil
  | _, [], k + 1, .nil => .nil
  | _, _ :: _, k + 1, .cons h t => .cons h (TDs.take k t)
def WsOk (doors : List Int) (r : Nat) (ws : List (Int × Int)) : Prop := ws.length ≤ 8 ∧ ws.Nodup ∧ ∀ p ∈ ws, 0 ≤ p.1 ∧ p.1 < (doors.length : Int) ∧ p.1 ≠ (r : Int) ∧ 0 ≤ p.2 ∧ p.2 < g doors p.1
def spWired : Sp := fun vs H Q _ => ∃ (a gr c dp : Addr) (n : Int) (doors : List Int), vs = [.ref a, .ref dp] ∧ IL H dp doors ∧ ¬ SF a gr c dp ∧ 1 ≤ doors.length ∧ doors.length ≤ 4 ∧ (∀ d ∈ doors, 1 ≤ d ∧ d ≤ 2) ∧ LN a gr c n H ∧ n + 100 ≤ BigT ∧
  ∀ (H' : Hp) (v : V) (wires : List (List (Int × Int))), TD H' v (.tuple (wires.map wiresD)) → wires.length = doors.length → (∀ r ws, wires[r]? = some ws → WsOk doors r ws) → LN a gr c (n + 100) H' → Off (SF a gr c) H H' → Q v H'
abbrev NWi : List Str := ["_law_state", "_law_doors", "_law_found", "_law_at", "_law_some", "_law_to", "_law_door"]
theorem sc_wired : FnScope NWi ["_law_state", "_law_doors"] (defScope (top 47)) := ⟨rfl, rfl, rfl, by decide +kernel, rfl, by decide +kernel, by decide +kernel⟩
/-- the pairs that one room offers -/
def blk (j : Int) (k : Nat) : List (Int × Int) := (List.range k).map fun e : Nat => (j, (e : Int))
theorem blk_succ (j : Int) (k : Nat) : blk j (k + 1) = blk j k ++ [(j, (k : Int))] := by
  unfold blk
  rw [List.range_succ, List.map_append]
  rfl
theorem blk_mem {j : Int} {k : Nat} {p : Int × Int} (h : p ∈ blk j k) : p.1 = j ∧ 0 ≤ p.2 ∧ p.2 < (k : Int) := by
  obtain ⟨e, he, rfl⟩ := List.mem_map.mp h
  have := List.mem_range.mp he
  exact ⟨rfl, by show (0 : Int) ≤ (e : Int); omega, by show (e : Int) < (k : Int); omega⟩
theorem blk_nodup (j : Int) : ∀ k, (blk j k).Nodup
  | 0 => List.nodup_nil
  | k + 1 => by
    rw [blk_succ]
    refine List.nodup_append.mpr ⟨blk_nodup j k, List.nodup_cons.mpr ⟨fun z => (by cases z), List.nodup_nil⟩, fun p hp q hq e => ?_⟩
    rw [List.mem_singleton.mp hq] at e
    have := (blk_mem hp).2.2
    rw [e] at this
    exact absurd this (Int.lt_irrefl _)
theorem blk_len (j : Int) (k : Nat) : (blk j k).length = k := by
  unfold blk
  rw [List.length_map, List.length_range]
theorem ok_wired (T : Txt K mg) : DefOk P w K mg base CX0 4 "_law_wired" ["_law_state", "_law_doors"] spWired := by
  have D_law_pick := ok_pick (P := P) (w := w) (base := base) T
  have D_law_shuffled := ok_shuf (P := P) (w := w) (base := base) T
  refine def0 (i := 26) (j := 26) (n := 47) (N := NWi) T rfl rfl sc_wired (fun _ _ _ _ _ _ us hl => match us, hl with | [_, _], _ => rfl) (fun vs H Q E h => ?_) (fun cdv A outer s H vs Q E hr h => ?_)
  · obtain ⟨_, _, _, _, _, _, rfl, _⟩ := h
    rfl
  · obtain ⟨a, gr, c, dp, n, doors, rfl, hd, nd0, l0, l1, hdo, hs, hn, q⟩ := h
    have nd := sc_wired.nd
    refine ⟨_, (pss_cons (ps_set (i := 2) nd rfl (Or.inl rfl) (pe_lst pa_nil))
    (pss_cons (ps_for PassesOwn.never rfl (pi_range1 rfl T.f_range (pa_cons (pe_cB (id := "len") call_len (by rfl) T.f_len PySem.boot_len (pv 1)) pa_nil)) (pg_name (i := 3) nd rfl (Or.inr rfl)) (pss_cons (ps_set (i := 4) nd rfl (Or.inl rfl) (pe_lst pa_nil))
      (pss_cons (ps_for PassesOwn.never rfl (pi_range1 rfl T.f_range (pa_cons (pe_cB (id := "len") call_len (by rfl) T.f_len PySem.boot_len (pv 1)) pa_nil)) (pg_name (i := 5) nd rfl (Or.inr rfl)) (pss_one (ps_set (i := 4) nd rfl (Or.inl rfl) (pe_op op_cat (pv 4) (pe_lc (own := [("_law_door", 6)]) rfl nd (pi_range1 rfl T.f_range (pa_cons (pe_ix ix_list (pv 1) (pv 5) (fun _ _ => rfl)) pa_nil)) (blkOk_by (N := ["_law_state", "_law_doors", "_law_found", "_law_at", "_law_some", "_law_to", "_law_door"]) (sc := defScope (top 47)) (by decide +kernel)) (fun _ _ _ _ _ => by exact (pg_name (i := 6) nd rfl (Or.inl rfl))) (fun _ _ _ _ _ => by exact (pts_one (pt_cmpR op_ne (pv 5) (pv 3) (nomark _)))) (fun _ _ _ _ _ => by exact (pe_tup (pa_cons (pv 5) (pa_cons (pv 6) pa_nil)))))))))
      (pss_one (ps_expr (pe_bm PySem.F.plainAttrs_list PySem.F.slot_list_append PySem.F.type_list_append mt_append (pv 2) (pa_cons (pe_cT (T := "tuple") call_tuple rfl T.f_tuple (by decide +kernel) (pe_slice sl_list (pe_def D_law_shuffled (hr.mono (by decide)) rfl (pa_cons (pv 0) (pa_cons (pv 4) pa_nil))) po_none (po_some (pe_def D_law_pick (hr.mono (by decide)) rfl (pa_cons (pv 0) (pa_cons (pe_lst (pa_cons pe_int (pa_cons pe_int (pa_cons pe_int (pa_cons pe_int (pa_cons pe_int (pa_cons pe_int pa_nil))))))) pa_nil)))))) pa_nil)))))))
    (pss_one (ps_ret (pe_cT (T := "tuple") call_tuple rfl T.f_tuple (by decide +kernel) (pv 2)))))), ?_⟩
    refine ⟨Nat.le_of_ble_eq_true rfl, fun f nf => ?_⟩
    have nf0 : ¬ SF a gr c f := hs.out nf
    refine ⟨_, rfl, rd_len (show IL _ dp doors from (same_new nf) _ _ hd) ⟨_, rfl, by omega, by omega, for_it walk_range (fun i σ H' => ∃ (fv : List V) (wires : List (List (Int × Int))) (o1 o2 o3 : Option V), σ = [some (.ref a), some (.ref dp), some (.ref f), o1, o2, o3, none] ∧ H' f = some (.lst fv) ∧ TDs H' fv (wires.map wiresD) ∧ wires.length = i ∧ (∀ r ws, wires[r]? = some ws → WsOk doors r ws) ∧ LN a gr c (n + 20 * i) H' ∧ Off (SF a gr c) H H')
      ⟨[], [], none, none, none, rfl, upd_same, .nil, rfl, fun r ws z => by simp at z, (hs.same (same_new nf)).le (by omega), Off.new nf⟩ (fun _ _ _ _ _ => trivial) ?_ ?_⟩⟩
    · rintro i x σ H1 H2 hi ⟨fv, wires, u1, u2, u3, rfl, hf, tf, lw, hws, L2', o2⟩ ⟨rfl, rfl⟩
      have hi' : i < doors.length := by omega
      refine ⟨Nat.le_of_ble_eq_true rfl, fun sp nsp => ?_⟩
      have k3 := same_new (o := .lst []) nsp
      have hsp : (upd H2 sp (.lst [])) sp = some (.lst []) := upd_same
      have L3 := L2'.same k3
      have hf3 := k3 _ _ hf
      have tf3 := tf.kt (Same.kt k3)
      have o3 : Off (SF a gr c) H _ := o2.trans (Off.new (o := .lst []) nsp)
      generalize upd H2 sp (.lst []) = H3 at k3 hsp L3 hf3 tf3 o3 ⊢
      have hd3 : IL H3 dp doors := o3.at hd nd0
      refine ⟨_, rfl, rd_len hd3 ⟨_, rfl, by omega, by omega, for_it walk_range (fun j σ H' => ∃ (sp : Addr) (sv : List V) (prs : List (Int × Int)) (o3 : Option V), σ = [some (.ref a), some (.ref dp), some (.ref f), some (.int (0 + (i : Int))), some (.ref sp), o3, none] ∧ H' sp = some (.lst sv) ∧ TDs H' sv (prs.map pairD) ∧ prs.Nodup ∧ (∀ p ∈ prs, 0 ≤ p.1 ∧ p.1 < (j : Int) ∧ p.1 ≠ (i : Int) ∧ 0 ≤ p.2 ∧ p.2 < g doors p.1) ∧ prs.length ≤ 2 * j ∧ Same H3 H')
        ⟨sp, [], [], _, rfl, hsp, .nil, List.nodup_nil, fun p hp => (by cases hp), Nat.le_refl 0, sm_rfl H3⟩ (fun _ _ _ _ _ => trivial) ?_ ?_⟩⟩
      · rintro j x σ H4 H5 hj ⟨sp4, sv, prs, u4, rfl, h4, t4, n4, p4, l4, k4⟩ ⟨rfl, rfl⟩
        have hj' : j < doors.length := by omega
        have hd5 : IL H5 dp doors := k4 _ _ hd3
        have ej : g doors (0 + (j : Int)) = doors[j] := by
          unfold g
          rw [Int.zero_add, Int.toNat_natCast, List.getD_eq_getElem?_getD, List.getElem?_eq_getElem hj']
          rfl
        obtain ⟨dj0, dj1⟩ := hdo doors[j] (List.getElem_mem hj')
        -- the comprehension's list
        have after : ∀ (H6 : Hp) (D : Addr) (ys : List V) (bl : List (Int × Int)), Same H5 H6 → H6 D = some (.lst ys) → TDs H6 ys (bl.map pairD) → bl.Nodup → (∀ p ∈ bl, p.1 = (j : Int) ∧ (j : Int) ≠ (i : Int) ∧ 0 ≤ p.2 ∧ p.2 < doors[j]) → bl.length ≤ 2 → ∀ r : Addr, H6 r = none → ∃ (sp' : Addr) (sv' : List V) (prs' : List (Int × Int)) (o3 : Option V), [some (V.ref a), some (.ref dp), some (.ref f), some (.int (0 + (i : Int))), some (.ref r), some (.int (0 + (j : Int))), none] = [some (.ref a), some (.ref dp), some (.ref f), some (.int (0 + (i : Int))), some (.ref sp'), o3, none] ∧ (upd H6 r (.lst (sv ++ ys))) sp' = some (.lst sv') ∧ TDs (upd H6 r (.lst (sv ++ ys))) sv' (prs'.map pairD) ∧ prs'.Nodup ∧ (∀ p ∈ prs', 0 ≤ p.1 ∧ p.1 < ((j + 1 : Nat) : Int) ∧ p.1 ≠ (i : Int) ∧ 0 ≤ p.2 ∧ p.2 < g doors p.1) ∧ prs'.length ≤ 2 * (j + 1) ∧ Same H3 (upd H6 r (.lst (sv ++ ys))) := by
          intro H6 D ys bl k6 hD tD nb pb lb r nr
          have kr := same_new (o := .lst (sv ++ ys)) nr
          refine ⟨r, sv ++ ys, prs ++ bl, _, rfl, upd_same, ?_, ?_, ?_, ?_, sm_tr k4 (sm_tr k6 kr)⟩
          · rw [List.map_append]
            exact TDs.app (t4.kt (Same.kt (sm_tr k6 kr))) (tD.kt (Same.kt kr))
          · refine List.nodup_append.mpr ⟨n4, nb, fun p hp p' hp' e => ?_⟩
            have e1 := (p4 p hp).2.1
            have e2 := (pb p' hp').1
            rw [e, e2] at e1
            exact absurd e1 (Int.lt_irrefl _)
          · intro p hp
            rcases List.mem_append.mp hp with hp | hp
            · obtain ⟨z1, z2, z3, z4, z5⟩ := p4 p hp
              exact ⟨z1, by omega, z3, z4, z5⟩
            · obtain ⟨z1, z2, z3, z4⟩ := pb p hp
              refine ⟨by omega, by omega, by omega, z3, ?_⟩
              have e0 : g doors p.1 = doors[j] := by
                rw [z1]
                have := ej
                rw [Int.zero_add] at this
                exact this
              rw [e0]
              exact z4
          · rw [List.length_append]
            omega
        refine ⟨_, rfl, _, rfl, _, rfl, rd_ix hd5 (by omega) (by omega) ⟨_, rfl, by rw [ej]; omega, by rw [ej]; omega, fun D nD => ?_⟩⟩
        rw [ej]
        have tn : ((doors[j].toNat : Nat) : Int) = doors[j] := Int.toNat_of_nonneg (by omega)
        by_cases hji : (j : Int) = (i : Int)
        · refine lc_it walk_range (fun k H' => Same H5 H' ∧ H' D = some (.lst [])) ⟨same_new nD, upd_same⟩ (fun _ _ _ _ => trivial) ?_ ?_
          · rintro k x H6 H7 hk ⟨k6, hD⟩ ⟨rfl, rfl⟩
            refine ⟨rfl, _, rfl, _, rfl, rfl, _, rfl, ite_intN (fun z => absurd (by omega) z) fun _ => ⟨k6, hD⟩⟩
          · rintro H6 ⟨k6, hD⟩
            refine ⟨_, _, _, _, rfl, rfl, k6 _ _ h4, hD, ?_, fun r nr => after H6 D [] [] k6 hD .nil List.nodup_nil (fun p hp => (by cases hp)) (Nat.zero_le _) r nr⟩
            have := t4.lenMap
            show sv.length + 0 ≤ 16777216
            omega
        · refine lc_it walk_range (fun k H' => ∃ ys, Same H5 H' ∧ H' D = some (.lst ys) ∧ TDs H' ys ((blk (j : Int) k).map pairD)) ⟨[], same_new nD, upd_same, .nil⟩ (fun _ _ _ _ => trivial) ?_ ?_
          · rintro k x H6 H7 hk ⟨ys, k6, hD, tD⟩ ⟨rfl, rfl⟩
            have hk : k < doors[j].toNat := hk
            refine ⟨rfl, _, rfl, _, rfl, rfl, _, rfl, ite_intN (fun _ => ?_) fun z => absurd (by omega) hji⟩
            refine ⟨_, rfl, _, rfl, Nat.le_of_ble_eq_true rfl, fun t nt => ⟨ys, (same_new nt) _ _ hD, ?_, ys ++ [.ref t], ?_, upd_same, ?_⟩⟩
            · have := tD.lenMap
              rw [blk_len] at this
              show ys.length < 16777216
              omega
            · refine fun b v e => ?_
              rw [upd_ne (ne_of_none e nD)]
              exact (same_new nt) _ _ (k6 _ _ e)
            · rw [blk_succ, List.map_append]
              have kt : KT H7 (upd (upd H7 t (.tup [.int (0 + (j : Int)), .int (0 + (k : Int))])) D (.lst (ys ++ [.ref t]))) := KT.trans (Same.kt (same_new nt)) (kt_upd (lst_not ((same_new nt) _ _ hD)))
              refine TDs.app (tD.kt kt) (TDs.one (TD.ofPair ?_))
              rw [upd_ne (ne_of_none hD nt).symm, upd_same]
              show some (HO.tup [V.int (0 + (j : Int)), V.int (0 + (k : Int))]) = some (HO.tup [V.int (j : Int), V.int (k : Int)])
              rw [Int.zero_add, Int.zero_add]
          · rintro H6 ⟨ys, k6, hD, tD⟩
            refine ⟨_, _, _, _, rfl, rfl, k6 _ _ h4, hD, ?_, fun r nr => after H6 D ys _ k6 hD tD (blk_nodup _ _) (fun p hp => ?_) ?_ r nr⟩
            · have e1 := t4.lenMap
              have e2 := tD.lenMap
              rw [blk_len] at e2
              show sv.length + ys.length ≤ 16777216
              omega
            · obtain ⟨z1, z2, z3⟩ := blk_mem hp
              exact ⟨z1, hji, z2, by omega⟩
            · rw [blk_len]
              omega
      · rintro σ H4 ⟨sp4, sv, prs, u4, rfl, h4, t4, n4, p4, l4, k4⟩
        have lsv := t4.lenMap
        have L4 := L3.same k4
        have hf4 := k4 _ _ hf3
        have tf4 := tf3.kt (Same.kt k4)
        have o4 := o3.trans (Off.same k4)
        refine ⟨_, rfl, .inl ⟨rfl, _, SqL.of hf4⟩, _, rfl, _, rfl, a, gr, c, sp4, _, sv, prs, rfl, h4, t4, by omega, L4, by omega, fun H5 qa ys us pm hq tq nq L5 o5 => ?_⟩
        have nq0 : ¬ SF a gr c qa := L4.out nq
        have lys := tq.lenMap
        refine ⟨_, rfl, Nat.le_of_ble_eq_true rfl, fun p np => ⟨a, gr, c, p, _, [.int 2, .int 1, .int 3, .int 2, .int 0, .int 8], rfl, .inl ⟨upd_same, L5.out np⟩, Nat.le_of_ble_eq_true rfl, Nat.le_of_ble_eq_true rfl, L5.same (same_new np), by omega, fun H6 x hx L6 o6 => ?_⟩⟩
        obtain ⟨z, hz, rfl⟩ := int_of (l := [2, 1, 3, 2, 0, 8]) hx
        have hz' : 0 ≤ z ∧ z ≤ 8 := by
          simp only [List.mem_cons, List.not_mem_nil, or_false] at hz
          omega
        have o56 := (Off.new (F := SF a gr c) (o := .lst [.int 2, .int 1, .int 3, .int 2, .int 0, .int 8]) np).trans o6
        have hq6 := o56.at hq nq0
        have tq6 := tq.kt o56.kt
        have hf6 := (o5.trans o56).at hf4 nf0
        have tf6 := tf4.kt (o5.trans o56).kt
        obtain ⟨m, hm8, hm⟩ : ∃ m : Nat, m ≤ 8 ∧ cutV ys none (some z) = ys.take m := by
          refine ⟨min z.toNat ys.length, by omega, ?_⟩
          show List.take ((if z < 0 then (z + (ys.length : Int)).toNat else min z.toNat ys.length) - 0) (List.drop 0 ys) = _
          rw [if_neg (by omega)]
          rfl
        refine ⟨z, rfl, qa, ys, rfl, SqL.of hq6, fun r nr => rd_tupL upd_same fun t nt => ?_⟩
        rw [hm]
        have kA := same_new (o := .lst (ys.take m)) nr
        have ntn : upd H6 r (.lst (ys.take m)) t = none := by
          rw [← hm]
          exact nt
        have kB := same_new (o := .tup (ys.take m)) ntn
        have kk := sm_tr kA kB
        have hf7 := kk _ _ hf6
        have fH : H f = none := nf
        refine ⟨_, _, _, rfl, rfl, hf7, ?_, ?_⟩
        · have := tf4.lenMap
          show fv.length < 16777216
          omega
        have kt : KT H6 (upd (upd (upd H6 r (.lst (ys.take m))) t (.tup (ys.take m))) f (.lst (fv ++ [.ref t]))) := KT.trans (Same.kt kk) (kt_upd (lst_not hf7))
        refine ⟨fv ++ [.ref t], wires ++ [us.take m], _, _, _, rfl, upd_same, ?_, ?_, ?_, ?_, ?_⟩
        · rw [List.map_append]
          refine TDs.app (tf6.kt kt) (TDs.one (.tup (xs := ys.take m) ?_ ?_))
          · rw [upd_ne (ne_of_none hf6 (same_none kA ntn)).symm, upd_same]
          · rw [List.map_take]
            exact (tq6.kt kt).take m
        · rw [List.length_append, lw]
          rfl
        · intro r' ws' hw'
          by_cases hr' : r' < wires.length
          · rw [List.getElem?_append_left hr'] at hw'
            exact hws r' ws' hw'
          · have hl' : r' < (wires ++ [us.take m]).length := (List.getElem?_eq_some_iff.mp hw').1
            rw [List.length_append] at hl'
            have l1' : ([us.take m] : List (List (Int × Int))).length = 1 := rfl
            have er : r' = wires.length := by omega
            subst er
            rw [List.getElem?_append_right (Nat.le_refl _), Nat.sub_self] at hw'
            have ew : us.take m = ws' := by simpa using hw'
            subst ew
            refine ⟨?_, ?_, fun p hp => ?_⟩
            · rw [List.length_take]
              omega
            · exact (List.take_sublist _ _).nodup (pm.nodup_iff.mpr n4)
            · obtain ⟨z1, z2, z3, z4, z5⟩ := p4 p (pm.mem_iff.mp (List.mem_of_mem_take hp))
              exact ⟨z1, by omega, by rw [lw]; exact z3, z4, z5⟩
        · refine ((L6.same kk).off (F := fun b => b = f) (Off.upd rfl (lst_not hf7)) fun b hb e => nf0 (e ▸ hb)).le ?_
          have lp : (sv.length : Int) ≤ 8 := by omega
          omega
        · intro b v e ke
          rw [upd_ne (ne_of_none e fH)]
          exact (((o4.trans o5).trans o56).trans (Off.same kk)) b v e ke
    · rintro σ H2 ⟨fv, wires, u1, u2, u3, rfl, hf, tf, lw, hws, L2', o2⟩
      refine ⟨_, rfl, rd_tupL hf fun t nt => ?_⟩
      have kt := same_new (o := .tup fv) nt
      refine q _ _ wires (.tup upd_same (tf.kt (Same.kt kt))) (by omega) hws ((L2'.same kt).le (by omega)) (o2.trans (Off.same kt))
end K25
set_option maxHeartbeats 2000000
/-! the law: board -/
namespace K25
open PySem PySem.Spec PyProof.Rows L2 He
variable {P : Program} {w : World} {K : PySem.W.Frag} {mg : Str → Option Value} {base : Heap}
/-- what follows, for several places at once -/
theorem seq_cut {A B : TS} {D : Ends} {σ : L2.St} {H : Hp} (P : L2.St → Hp → Prop) (h1 : ∀ σ H, P σ H → B D σ H) (h2 : (∀ σ H, P σ H → B D σ H) → tSeq A B D σ H) : tSeq A B D σ H := h2 h1
def spBd : Sp := fun vs H Q _ => ∃ (a gr c : Addr) (n many : Int), vs = [.ref a, .int many] ∧ 1 ≤ many ∧ many ≤ 4 ∧ LN a gr c n H ∧ n + 3000 ≤ BigT ∧
  ∀ (H' : Hp) (v : V) (b : Bd), TD H' v (bdD b) → WfB b → (b.secs.length : Int) = many → LN a gr c (n + 3000) H' → Off (SF a gr c) H H' → Q v H'
abbrev NBd : List Str := ["_law_state", "_law_many", "_law_doors", "_law_lively", "_law_wires", "_law_sections", "_law_at", "_law_section_here", "_law_cells", "_law_spot", "_law_door"]
theorem sc_bd : FnScope NBd ["_law_state", "_law_many"] (defScope (top 50)) := ⟨rfl, rfl, rfl, by decide +kernel, rfl, by decide +kernel, by decide +kernel⟩
theorem ok_bd (T : Txt K mg) : DefOk P w K mg base CX0 7 "_law_board" ["_law_state", "_law_many"] spBd := by
  have D_law_draw := ok_draw (P := P) (w := w) (base := base) T
  have D_law_pick := ok_pick (P := P) (w := w) (base := base) T
  have D_law_wired := ok_wired (P := P) (w := w) (base := base) T
  have D_law_counting := ok_count (P := P) (w := w) (base := base) T
  have D_law_section := ok_sect (P := P) (w := w) (base := base) T
  have D_law_noise := ok_noise (P := P) (w := w) (base := base) T
  refine def0 (i := 29) (j := 29) (n := 50) (N := NBd) T rfl rfl sc_bd (fun _ _ _ _ _ _ us hl => match us, hl with | [_, _], _ => rfl) (fun vs H Q E h => ?_) (fun cdv A outer s H vs Q E hr h => ?_)
  · obtain ⟨_, _, _, _, _, rfl, _⟩ := h
    rfl
  · obtain ⟨a, gr, c, n, many, rfl, m0, m1, hs, hn, q⟩ := h
    have nd := sc_bd.nd
    refine ⟨_, (pss_cons (ps_par (i := 2) (j := 3) (by rfl) nd rfl rfl (by decide) rfl rfl (pa_cons (pe_lc (own := [("_law_spot", 9)]) rfl nd (pi_range1 rfl T.f_range (pa_cons (pv 1) pa_nil)) (blkOk_by (N := ["_law_state", "_law_many", "_law_doors", "_law_lively", "_law_wires", "_law_sections", "_law_at", "_law_section_here", "_law_cells", "_law_spot", "_law_door"]) (sc := defScope (top 50)) (by decide +kernel)) (fun _ _ _ _ _ => by exact (pg_name (i := 9) nd rfl (Or.inl rfl))) (fun _ _ _ _ _ => by exact pts_nil) (fun _ _ _ _ _ => by exact (pe_op op_add pe_int (pe_def D_law_draw (hr.mono (by decide)) rfl (pa_cons (pv 0) (pa_cons pe_int pa_nil)))))) (pa_cons (pe_cmpR op_gt (pe_def D_law_draw (hr.mono (by decide)) rfl (pa_cons (pv 0) (pa_cons pe_int pa_nil))) pe_int (nomark _)) pa_nil)) (by rfl))
    (pss_cons (ps_par (i := 4) (j := 5) (by rfl) nd rfl rfl (by decide) rfl rfl (pa_cons (pe_def D_law_wired (hr.mono (by decide)) rfl (pa_cons (pv 0) (pa_cons (pv 2) pa_nil))) (pa_cons (pe_lst pa_nil) pa_nil)) (by rfl))
    (pss_cons (ps_for PassesOwn.never rfl (pi_range1 rfl T.f_range (pa_cons (pv 1) pa_nil)) (pg_name (i := 6) nd rfl (Or.inl rfl)) (pss_cons (ps_set (i := 7) nd rfl (Or.inl rfl) (pe_def D_law_counting (hr.mono (by decide)) rfl (pa_cons (pv 0) (pa_cons (pe_ix ix_tup (pv 4) (pv 6) (fun _ _ => rfl)) (pa_cons (pe_ix ix_list (pv 2) (pv 6) (fun _ _ => rfl)) pa_nil)))))
      (pss_cons (ps_if (pt_not (pt_val (pv 3))) (pss_one (ps_set (i := 7) nd rfl (Or.inl rfl) (pe_def D_law_section (hr.mono (by decide)) rfl (pa_cons (pv 0) (pa_cons (pe_ix ix_tup (pv 4) (pv 6) (fun _ _ => rfl)) (pa_cons (pe_ix ix_list (pv 2) (pv 6) (fun _ _ => rfl)) pa_nil)))))) pss_nil)
      (pss_cons (ps_if (pt_cmpR op_eq (pe_def D_law_draw (hr.mono (by decide)) rfl (pa_cons (pv 0) (pa_cons (pe_ifExp (pt_val (pv 3)) pe_int pe_int) pa_nil))) pe_int (nomark _)) (pss_cons (ps_set (i := 8) nd rfl (Or.inr rfl) (pe_def D_law_noise (hr.mono (by decide)) rfl (pa_cons (pv 0) pa_nil)))
        (pss_one (ps_set (i := 7) nd rfl (Or.inl rfl) (pe_tup (pa_cons (pe_cT (T := "tuple") call_tuple rfl T.f_tuple (by decide +kernel) (pv 8)) (pa_cons (pe_cT (T := "tuple") call_tuple rfl T.f_tuple (by decide +kernel) (pe_lc (own := [("_law_door", 10)]) rfl nd (pi_range1 rfl T.f_range (pa_cons (pe_ix ix_list (pv 2) (pv 6) (fun _ _ => rfl)) pa_nil)) (blkOk_by (N := ["_law_state", "_law_many", "_law_doors", "_law_lively", "_law_wires", "_law_sections", "_law_at", "_law_section_here", "_law_cells", "_law_spot", "_law_door"]) (sc := defScope (top 50)) (by decide +kernel)) (fun _ _ _ _ _ => by exact (pg_name (i := 10) nd rfl (Or.inl rfl))) (fun _ _ _ _ _ => by exact pts_nil) (fun _ _ _ _ _ => by exact (pe_def D_law_draw (hr.mono (by decide)) rfl (pa_cons (pv 0) (pa_cons (pe_op op_add (pe_cB (id := "len") (cLenK (K := K) rfl) (by rfl) T.f_len PySem.boot_len (pv 8)) pe_int) pa_nil)))))) pa_nil)))))) pss_nil)
      (pss_one (ps_expr (pe_bm PySem.F.plainAttrs_list PySem.F.slot_list_append PySem.F.type_list_append mt_append (pv 5) (pa_cons (pv 7) pa_nil))))))))
    (pss_one (ps_ret (pe_tup (pa_cons (pe_def D_law_pick (hr.mono (by decide)) rfl (pa_cons (pv 0) (pa_cons (pe_lst (pa_cons pe_int (pa_cons pe_int (pa_cons pe_int (pa_cons pe_int (pa_cons pe_int (pa_cons pe_int pa_nil))))))) pa_nil))) (pa_cons (pv 4) (pa_cons (pe_cT (T := "tuple") call_tuple rfl T.f_tuple (by decide +kernel) (pv 5)) pa_nil))))))))), ?_⟩
    -- doors
    refine ⟨_, rfl, many, rfl, by omega, by omega, fun D nD => lc_it walk_range (fun i H' => ∃ l : List Int, l.length = i ∧ IL H' D l ∧ (∀ z ∈ l, 1 ≤ z ∧ z ≤ 2) ∧ LN a gr c (n + i) H' ∧ Off (SF a gr c) H H') ⟨[], rfl, upd_same, fun z hz => (by cases hz), (hs.same (same_new nD)).le (by omega), Off.new nD⟩ (fun _ _ _ _ => trivial) ?_ ?_⟩
    · rintro i x H3 H4 hi ⟨l, ll, k1, k2, k3, k4⟩ ⟨rfl, rfl⟩
      have nD' : ¬ SF a gr c D := hs.out nD
      refine ⟨rfl, _, rfl, a, gr, c, _, 2, rfl, k3, by omega, by decide, by decide, fun H5 y y0 y1 L5 o5 => ⟨_, _, rfl, rfl, l.map V.int, o5.at k1 nD', ?_, l ++ [1 + y], ?_, ?_, ?_, ?_, ?_⟩⟩
      · rw [List.length_map]
        show l.length < 16777216
        omega
      · rw [List.length_append, ll]
        rfl
      · show (upd H5 D _) D = _
        rw [upd_same, List.map_append]
        rfl
      · intro z hz
        rcases List.mem_append.mp hz with hz | hz
        · exact k2 z hz
        · rw [List.mem_singleton.mp hz]
          omega
      · refine (L5.le (by omega)).off (F := fun b => b = D) (Off.upd rfl (lst_not (o5.at k1 nD'))) ?_
        rintro b hb e
        exact nD' (e ▸ hb)
      · intro b v e ke
        rw [upd_ne (ne_of_none e nD)]
        exact (k4.trans o5) b v e ke
    rintro H1 ⟨doors, ld, hdo, hd2, L1, o1⟩
    have mm : (many.toNat : Int) = many := Int.toNat_of_nonneg (by omega)
    have nD' : ¬ SF a gr c D := hs.out nD
    refine ⟨_, rfl, a, gr, c, _, 5, rfl, L1, by omega, by decide, by decide, fun H2 lv lv0 lv1 L2' o2 => ⟨_, _, rfl, rfl, _, _, rfl, ?_⟩⟩
    -- wires
    refine ⟨_, rfl, _, rfl, a, gr, c, D, _, doors, rfl, o2.at hdo nD', nD', by omega, by omega, hd2, L2', by omega, fun H3 wv wires twv lw hws L3 o3 => ⟨Nat.le_of_ble_eq_true rfl, fun sp nsp => ⟨_, _, rfl, ?_⟩⟩⟩
    have oA := ((o1.trans o2).trans o3).trans (Off.new (F := SF a gr c) (o := .lst []) nsp)
    have L4 := L3.same (same_new (o := .lst []) nsp)
    have sH : H sp = none := ((o1.trans o2).trans o3).free nsp (L3.out nsp)
    have ns0 : ¬ SF a gr c sp := hs.out sH
    have tw4 := twv.kt (Same.kt (same_new (o := .lst []) nsp))
    have hdo4 := ((o2.trans o3).trans (Off.new (F := SF a gr c) (o := .lst []) nsp)).at hdo nD'
    have hsp : (upd H3 sp (.lst [])) sp = some (.lst []) := upd_same
    have neD : D ≠ sp := ne_of_none ((o2.trans o3).at hdo nD') nsp
    generalize upd H3 sp (.lst []) = H4 at oA L4 tw4 hdo4 hsp ⊢
    clear twv L3 o3 nsp
    show tSeq _ _ _ [some (.ref a), some (.int many), some (.ref D), some (.bl (decide (1 < lv))), some wv, some (.ref sp), none, none, none, none, none] H4
    generalize decide (1 < lv) = lively
    let F4 : Addr → Prop := fun b => SF a gr c b ∨ b = sp
    have up4 : ∀ {X Y : Hp}, Off (SF a gr c) X Y → Off F4 X Y := fun o => o.mono fun b hb => .inl hb
    have nF : ¬ F4 D := fun z => z.elim nD' neD
    obtain ⟨wp, wxs, e, hwp, twx⟩ := tw4.inv
    subst e
    have lwx := twx.lenMap
    refine ⟨_, rfl, many, rfl, by omega, by omega, for_it walk_range (fun i σ H' => ∃ (sv : List V) (secs : List (List Int × List Int)) (o1 o2 o3 : Option V), σ = [some (.ref a), some (.int many), some (.ref D), some (.bl lively), some (.ref wp), some (.ref sp), o1, o2, o3, none, none] ∧ H' sp = some (.lst sv) ∧ TDs H' sv (secs.map secD) ∧ secs.length = i ∧ (∀ (r : Nat) (s : List Int × List Int), secs[r]? = some s → SecOk s ∧ (s.2.length : Int) = g doors (r : Int)) ∧ LN a gr c (n + 200 + 500 * i) H' ∧ Off F4 H4 H')
      ⟨[], [], none, none, none, rfl, hsp, .nil, rfl, fun r s z => by simp at z, L4.le (by omega), Off.refl _ _⟩ (fun _ _ _ _ _ => trivial) ?_ ?_⟩
    · rintro i x σ H5 H6 hi ⟨sv, secs, u1, u2, u3, rfl, hsv, tsv, lsec, hsec, L6, o6⟩ ⟨rfl, rfl⟩
      have hi' : i < doors.length := by omega
      have hiw : i < wires.length := by omega
      have ew : wires[i]? = some wires[i] := List.getElem?_eq_getElem hiw
      obtain ⟨wvi, ewv, twi⟩ := twx.get (i := i) (d := wiresD wires[i]) (by rw [List.getElem?_map, ew]; rfl)
      obtain ⟨w8, wnd, wok⟩ := hws i _ ew
      have eg : g doors (0 + (i : Int)) = doors[i] := by
        unfold g
        rw [Int.zero_add, Int.toNat_natCast, List.getD_eq_getElem?_getD, List.getElem?_eq_getElem hi']
        rfl
      have eg' : g doors (i : Int) = doors[i] := by
        have := eg
        rw [Int.zero_add] at this
        exact this
      obtain ⟨di0, di1⟩ := hd2 doors[i] (List.getElem_mem hi')
      have gb : ∀ z : Int, 0 ≤ z → z < (doors.length : Int) → g doors z ≤ 2 := by
        intro z z0 z1
        have hz : z.toNat < doors.length := by omega
        unfold g
        rw [List.getD_eq_getElem?_getD, List.getElem?_eq_getElem hz]
        exact (hd2 _ (List.getElem_mem hz)).2
      have wtt : WT H4 wvi wires[i] := ⟨twi, w8, fun p hp => by
        obtain ⟨z1, z2, z3, z4, z5⟩ := wok p hp
        have := gb p.1 z1 z2
        exact ⟨⟨z1, by omega⟩, ⟨z4, by omega⟩⟩⟩
      have atW : ∀ {H7 : Hp} {Q : VK}, Off F4 H4 H7 → Q wvi H7 → rIxT K (.ref wp) (.int (0 + (i : Int))) H7 Q := fun o7 q7 => rd_ixT (o7.tup hwp) (atI_of (by omega) (by rw [Int.zero_add, Int.toNat_natCast]; exact ewv)) q7
      have atD : ∀ {H7 : Hp} {Q : VK}, Off F4 H4 H7 → Q (.int doors[i]) H7 → rIxL K (.ref D) (.int (0 + (i : Int))) H7 Q := fun o7 q7 => rd_ix (o7.at hdo4 nF) (by omega) (by omega) (by rw [eg]; exact q7)
      -- the last statement of the body
      let St (k : Int) : L2.St → Hp → Prop := fun σ H7 => ∃ (v : V) (s : List Int × List Int) (u8 : Option V), σ = [some (.ref a), some (.int many), some (.ref D), some (.bl lively), some (.ref wp), some (.ref sp), some (.int (0 + (i : Int))), some v, u8, none, none] ∧ TD H7 v (secD s) ∧ SecOk s ∧ (s.2.length : Int) = doors[i] ∧ LN a gr c (n + 200 + 500 * i + k) H7 ∧ Off (SF a gr c) H6 H7
      refine ⟨_, rfl, _, rfl, _, rfl, atW o6 ⟨_, rfl, _, rfl, atD o6 ⟨a, gr, c, _, doors[i], wvi, wires[i], rfl, wtt.kt o6.kt, di0, di1, L6, by omega, fun H7 v7 s7 t7 k7 e7 L7 o7 => ?_⟩⟩⟩
      dsimp only [gName]
      refine seq_cut (A := tIfS _ _ _) (St 400) ?_ fun rest => ?_
      · rintro σ H8 ⟨v, s8, u8, rfl, t8, k8, e8, L8, o8⟩
        refine seq_cut (A := tIfS _ _ _) (St 490) ?_ fun rest => ?_
        · rintro σ H9 ⟨v, s9, u9, rfl, t9, k9, e9, L9, o9⟩
          have hsv9 := o9.at hsv ns0
          refine ⟨_, rfl, .inl ⟨rfl, _, SqL.of hsv9⟩, _, rfl, _, _, _, rfl, rfl, hsv9, ?_, ?_⟩
          · have := tsv.lenMap
            show sv.length < 16777216
            omega
          have kt : KT H9 (upd H9 sp (.lst (sv ++ [v]))) := kt_upd (lst_not hsv9)
          refine ⟨sv ++ [v], secs ++ [s9], _, _, _, rfl, upd_same, ?_, ?_, ?_, ?_, ?_⟩
          · rw [List.map_append]
            exact TDs.app ((tsv.kt o9.kt).kt kt) (TDs.one (t9.kt kt))
          · rw [List.length_append, lsec]
            rfl
          · intro r s' hs'
            by_cases hr' : r < secs.length
            · rw [List.getElem?_append_left hr'] at hs'
              exact hsec r s' hs'
            · have hl' : r < (secs ++ [s9]).length := (List.getElem?_eq_some_iff.mp hs').1
              rw [List.length_append] at hl'
              have l1' : ([s9] : List (List Int × List Int)).length = 1 := rfl
              have er : r = secs.length := by omega
              subst er
              rw [List.getElem?_append_right (Nat.le_refl _), Nat.sub_self] at hs'
              have es : s9 = s' := by simpa using hs'
              subst es
              refine ⟨k9, ?_⟩
              rw [e9, lsec, eg']
          · refine (L9.le (by omega)).off (F := fun b => b = sp) (Off.upd rfl (lst_not hsv9)) fun b hb e => ns0 (e ▸ hb)
          · intro b v' e ke
            by_cases z : b = sp
            · obtain ⟨xs, rfl⟩ := ke (.inr z)
              rw [z, hsp] at e
              cases e
            · rw [upd_ne z]
              exact (o6.trans (up4 o9)) b v' e ke
        · -- a section of noise
          cases lively with
          | true =>
            refine ⟨_, rfl, _, rfl, _, rfl, iteT ⟨a, gr, c, _, 9, rfl, L8, by omega, by decide, by decide, fun H9 k k0 k1 L9 o9 => ?_⟩⟩
            refine ⟨rfl, _, rfl, ite_int (fun _ => ?_) fun _ => rest _ _ ⟨v, s8, u8, rfl, t8.kt o9.kt, k8, e8, L9.le (by omega), o8.trans o9⟩⟩
            refine ⟨_, rfl, a, gr, c, _, rfl, L9, by omega, fun H10 cp r10 L10 o10 => ?_⟩
            obtain ⟨l, e1, e2, e3, e4, e5⟩ := id r10
            refine ⟨_, rfl, rd_tupL e1 fun pa npa => ?_⟩
            have m11 := Off.new (F := SF a gr c) (o := .tup (l.map V.int)) npa
            have L11 := (L10.same (same_new (o := .tup (l.map V.int)) npa)).le (m := n + 200 + 500 * i + 450) (by omega)
            have r11 := r10.off m11
            have hpa : (upd H10 pa (.tup (l.map V.int))) pa = some (.tup (l.map V.int)) := upd_same
            have o411 := (((o6.trans (up4 o8)).trans (up4 o9)).trans (up4 o10)).trans (up4 m11)
            have oB := ((o8.trans o9).trans o10).trans m11
            generalize upd H10 pa (.tup (l.map V.int)) = H11 at m11 L11 r11 hpa o411 oB ⊢
            refine ⟨_, rfl, _, rfl, atD o411 ⟨_, rfl, by omega, by omega, fun D2 nD2 => lc_it walk_range (fun j H' => LP a gr c H11 (n + 200 + 500 * i + 450) 1 D2 j H') (LP.start L11 nD2) (fun _ _ _ _ => trivial) ?_ ?_⟩⟩
            · rintro j y H3 H4' hj h ⟨rfl, rfl⟩
              obtain ⟨_, L3, o3⟩ := h.fin L11 nD2
              exact ⟨rfl, _, rfl, _, rfl, rd_lenR (r11.off o3) fun m mm0 mm1 => ⟨_, _, rfl, rfl, a, gr, c, _, _, rfl, L3, by omega, by omega, by omega, fun H5' y y0 y1 L5 o5 => LP.step h L11 nD2 o5 L5 (by omega) ⟨y0, by omega⟩ (by omega)⟩⟩
            · rintro H12 h
              obtain ⟨r12, L12, o12⟩ := h.fin L11 nD2
              obtain ⟨en, f1, f2, f3, f4, f5⟩ := r12
              refine rd_tupL f1 fun pb npb => ⟨Nat.le_of_ble_eq_true rfl, fun pc npc => ?_⟩
              have k1' := same_new (o := .tup (en.map V.int)) npb
              have k2' := same_new (o := .tup [.ref pa, .ref pb]) npc
              have tn : ((doors[i].toNat : Nat) : Int) = doors[i] := Int.toNat_of_nonneg (by omega)
              refine rest _ _ ⟨_, (l, en), _, rfl, .tup upd_same (.cons (TD.ofInts (k2' _ _ (k1' _ _ (o12.tup hpa)))) (.cons (TD.ofInts (k2' _ _ upd_same)) .nil)), ⟨⟨e3, Nat.le_trans e4 (by decide), e2⟩, by show 1 ≤ en.length; omega, by show en.length ≤ 6; omega, f2⟩, by show (en.length : Int) = doors[i]; omega, ((L12.same k1').same k2').le (by omega), ?_⟩
              exact (oB.trans o12).trans (Off.same (sm_tr k1' k2'))
          | false =>
            refine ⟨_, rfl, _, rfl, _, rfl, iteF ⟨a, gr, c, _, 4, rfl, L8, by omega, by decide, by decide, fun H9 k k0 k1 L9 o9 => ?_⟩⟩
            refine ⟨rfl, _, rfl, ite_int (fun _ => ?_) fun _ => rest _ _ ⟨v, s8, u8, rfl, t8.kt o9.kt, k8, e8, L9.le (by omega), o8.trans o9⟩⟩
            refine ⟨_, rfl, a, gr, c, _, rfl, L9, by omega, fun H10 cp r10 L10 o10 => ?_⟩
            obtain ⟨l, e1, e2, e3, e4, e5⟩ := id r10
            refine ⟨_, rfl, rd_tupL e1 fun pa npa => ?_⟩
            have m11 := Off.new (F := SF a gr c) (o := .tup (l.map V.int)) npa
            have L11 := (L10.same (same_new (o := .tup (l.map V.int)) npa)).le (m := n + 200 + 500 * i + 450) (by omega)
            have r11 := r10.off m11
            have hpa : (upd H10 pa (.tup (l.map V.int))) pa = some (.tup (l.map V.int)) := upd_same
            have o411 := (((o6.trans (up4 o8)).trans (up4 o9)).trans (up4 o10)).trans (up4 m11)
            have oB := ((o8.trans o9).trans o10).trans m11
            generalize upd H10 pa (.tup (l.map V.int)) = H11 at m11 L11 r11 hpa o411 oB ⊢
            refine ⟨_, rfl, _, rfl, atD o411 ⟨_, rfl, by omega, by omega, fun D2 nD2 => lc_it walk_range (fun j H' => LP a gr c H11 (n + 200 + 500 * i + 450) 1 D2 j H') (LP.start L11 nD2) (fun _ _ _ _ => trivial) ?_ ?_⟩⟩
            · rintro j y H3 H4' hj h ⟨rfl, rfl⟩
              obtain ⟨_, L3, o3⟩ := h.fin L11 nD2
              exact ⟨rfl, _, rfl, _, rfl, rd_lenR (r11.off o3) fun m mm0 mm1 => ⟨_, _, rfl, rfl, a, gr, c, _, _, rfl, L3, by omega, by omega, by omega, fun H5' y y0 y1 L5 o5 => LP.step h L11 nD2 o5 L5 (by omega) ⟨y0, by omega⟩ (by omega)⟩⟩
            · rintro H12 h
              obtain ⟨r12, L12, o12⟩ := h.fin L11 nD2
              obtain ⟨en, f1, f2, f3, f4, f5⟩ := r12
              refine rd_tupL f1 fun pb npb => ⟨Nat.le_of_ble_eq_true rfl, fun pc npc => ?_⟩
              have k1' := same_new (o := .tup (en.map V.int)) npb
              have k2' := same_new (o := .tup [.ref pa, .ref pb]) npc
              have tn : ((doors[i].toNat : Nat) : Int) = doors[i] := Int.toNat_of_nonneg (by omega)
              refine rest _ _ ⟨_, (l, en), _, rfl, .tup upd_same (.cons (TD.ofInts (k2' _ _ (k1' _ _ (o12.tup hpa)))) (.cons (TD.ofInts (k2' _ _ upd_same)) .nil)), ⟨⟨e3, Nat.le_trans e4 (by decide), e2⟩, by show 1 ≤ en.length; omega, by show en.length ≤ 6; omega, f2⟩, by show (en.length : Int) = doors[i]; omega, ((L12.same k1').same k2').le (by omega), ?_⟩
              exact (oB.trans o12).trans (Off.same (sm_tr k1' k2'))
      · -- not lively: the other maker
        refine ⟨_, rfl, _, rfl, ?_⟩
        cases lively with
        | true => exact iteF (rest _ _ ⟨v7, s7, _, rfl, t7, k7, e7, L7.le (by omega), o7⟩)
        | false =>
          refine iteT ⟨_, rfl, _, rfl, _, rfl, atW (o6.trans (up4 o7)) ⟨_, rfl, _, rfl, atD (o6.trans (up4 o7)) ⟨a, gr, c, _, doors[i], wvi, wires[i], rfl, wtt.kt (o6.trans (up4 o7)).kt, di0, di1, L7, by omega, fun H8 v8 s8 t8 k8 e8 L8 o8 => ?_⟩⟩⟩
          exact rest _ _ ⟨v8, s8, _, rfl, t8, k8, e8, L8.le (by omega), o7.trans o8⟩
    · rintro σ H5 ⟨sv, secs, u1, u2, u3, rfl, hsv, tsv, lsec, hsec, L6, o6⟩
      refine ⟨_, rfl, Nat.le_of_ble_eq_true rfl, fun p np => ⟨a, gr, c, p, _, [.int 3, .int 1, .int 2, .int 5, .int 60, .int 8], rfl, .inl ⟨upd_same, L6.out np⟩, Nat.le_of_ble_eq_true rfl, Nat.le_of_ble_eq_true rfl, L6.same (same_new np), by omega, fun H7 x hx L7 o7 => ?_⟩⟩
      obtain ⟨z, hz, rfl⟩ := int_of (l := [3, 1, 2, 5, 60, 8]) hx
      have hz' : 1 ≤ z ∧ z ≤ 60 := by
        simp only [List.mem_cons, List.not_mem_nil, or_false] at hz
        omega
      have o57 := (Off.new (F := SF a gr c) (o := .lst [.int 3, .int 1, .int 2, .int 5, .int 60, .int 8]) np).trans o7
      have o47 := o6.trans (up4 o57)
      refine ⟨_, rfl, _, rfl, rd_tupL (o57.at hsv ns0) fun t nt => ⟨Nat.le_of_ble_eq_true rfl, fun r nr => ?_⟩⟩
      have k1 := same_new (o := .tup sv) nt
      have k2 := same_new (o := .tup [.int z, .ref wp, .ref t]) nr
      have kk := sm_tr k1 k2
      have lsm : secs.length = many.toNat := lsec
      refine q _ _ ⟨z, wires, secs⟩ (.tup upd_same (.cons (.int z) (.cons (.tup (kk _ _ (o47.tup hwp)) ((twx.kt o47.kt).kt (Same.kt kk))) (.cons (.tup (k2 _ _ upd_same) ((tsv.kt o57.kt).kt (Same.kt kk))) .nil)))) ?_ (by show (secs.length : Int) = many; omega) ((L7.same kk).le (by omega)) ?_
      · have gsec : ∀ s ∈ secs, SecOk s := fun s hs => by
          obtain ⟨i, hi, e⟩ := List.mem_iff_getElem.mp hs
          exact (hsec i s (by rw [List.getElem?_eq_getElem hi, e])).1
        refine ⟨hz', by show wires.length = secs.length; omega, by show 1 ≤ secs.length; omega, by show secs.length ≤ 6; omega, fun s hs => (gsec s hs).1, fun s hs => (gsec s hs).2, fun r ws hr => ?_⟩
        obtain ⟨w8, wnd, wok⟩ := hws r ws hr
        refine ⟨w8, wnd, fun p hp => ?_⟩
        obtain ⟨z1, z2, z3, z4, z5⟩ := wok p hp
        have hp1 : p.1.toNat < secs.length := by omega
        have ep : secs[p.1.toNat]? = some secs[p.1.toNat] := List.getElem?_eq_getElem hp1
        have := (hsec _ _ ep).2
        rw [Int.toNat_of_nonneg z1] at this
        exact ⟨z1, by show p.1 < (secs.length : Int); omega, z3, z4, _, ep, by omega⟩
      · intro b v e ke
        have hb : b ≠ sp := ne_of_none e sH
        refine kk _ _ (o47 b v (oA b v e ke) fun k => k.elim ke fun z => absurd z hb)
end K25
set_option maxHeartbeats 2000000
/-! the law: told, caught -/
namespace K25
open PySem PySem.Spec PyProof.Rows L2 He
variable {P : Program} {w : World} {K : PySem.W.Frag} {mg : Str → Option Value} {base : Heap}
/-! ### told -/
def spTold (K : PySem.W.Frag) : Sp := fun vs H Q _ => ∃ (A : MA) (b : Bd) (s : MS), vs = [.ref A.m] ∧ MAt (CM K) H A b s ∧ WfB b ∧ WfM b s ∧ s.steps ≤ 1000 ∧ ∀ H', Same H H' → Q (.str s.tell) H'
theorem sc_told : FnScope ["_law_machine"] ["_law_machine"] (defScope (top 51)) := ⟨rfl, rfl, rfl, by decide +kernel, rfl, by decide +kernel, by decide +kernel⟩
theorem ok_told (T : Txt K mg) : ∃ fd, FnOkG P w K mg base CX0 4 (ga K "_law_told") fd ["_law_machine"] (spTold K) ∧ Binds K fd ["_law_machine"] [] ∧ PySem.W.keepIn K (.ref (ga K "_law_told")) = true := by
  have D_moment := ok_moment (P := P) (w := w) (base := base) T
  have D_row := ok_prow (P := P) (w := w) (base := base) T
  have D_steps := ok_psteps (P := P) (w := w) (base := base) T
  have D_state := ok_pstate (P := P) (w := w) (base := base) T
  have D_open_asks := ok_popen_asks (P := P) (w := w) (base := base) T
  obtain ⟨fd, F⟩ := T.defs 30 (dG "_law_told" 51) rfl
  refine ⟨fd, okG F sc_told (fun vs H Q E h => ?_) (fun cdv A outer s H vs Q E hg hr _ _ h => ?_), FunD.bindsN F (fun _ _ _ _ _ _ us hl => match us, hl with | [_], _ => rfl), F.kp⟩
  · obtain ⟨_, _, _, rfl, _⟩ := h
    rfl
  · obtain ⟨M, b, s, rfl, hm, hb, wf, hst, q⟩ := h
    have hgu := hg
    refine ⟨_, PSs.nox (pss_one (ps_ret (pe_cB (id := "repr") (call_repr_data hgu (u64 hr)) rfl T.f_repr (by decide +kernel) (pe_lst (pa_cons (pe_me0 (i := 5) (pv 0) T rfl D_moment (hr.mono (by decide)) pass0) (pa_cons (pe_pr (i := 0) (pv 0) T rfl D_row (hr.mono (by decide)) rfl) (pa_cons (pe_pr (i := 1) (pv 0) T rfl D_steps (hr.mono (by decide)) rfl) (pa_cons (pe_pr (i := 2) (pv 0) T rfl D_state (hr.mono (by decide)) rfl) (pa_cons (pe_pr (i := 4) (pv 0) T rfl D_open_asks (hr.mono (by decide)) rfl) pa_nil))))))))), ?_⟩
    obtain ⟨vb, av, hx⟩ := hm.mx
    refine ⟨_, rfl, _, _, _, rfl, hx.m, lk_moment, M, b, s, rfl, hm, wf, hb, fun H1 v k1 t1 => ?_⟩
    have hx1 := hx.same k1
    refine ⟨_, rfl, _, _, _, rfl, hx1.m, M, b, s, _, _, rfl, hx1.mr, fun p us np tus => ?_⟩
    have k2 := same_new (o := .lst us) np
    have hx2 := hx1.same k2
    refine ⟨_, rfl, _, _, _, rfl, hx2.m, M, b, s, _, _, rfl, hx2.mr, _, rfl, _, _, _, rfl, hx2.m, M, b, s, _, _, rfl, hx2.mr, _, rfl, _, _, _, rfl, hx2.m, M, b, s, _, _, rfl, hx2.mr, fun p2 us2 np2 tus2 => ⟨Nat.le_of_ble_eq_true rfl, fun p3 np3 => ?_⟩⟩
    have k3 := same_new (o := .lst us2) np2
    have k4 := same_new (o := .lst [v, .ref p, .int s.steps, .str s.mode.str, .ref p2]) np3
    have k34 := sm_tr k3 k4
    obtain ⟨z1, z2, z3, z4⟩ := tell_ok hb wf hst
    refine ⟨p3, s.tellD, rfl, ?_, z1, z2, z3, z4, q _ (sm_tr k1 (sm_tr k2 k34))⟩
    exact .lst (SqL.of upd_same) (.cons (sm_td (sm_tr k2 k34) t1).dp (.cons (.lst (SqL.of (k34 _ _ upd_same)) (tus.kt (Same.kt (sm_tr k2 k34))).dp) (.cons (.int _) (.cons (.str _) (.cons (.lst (SqL.of (k4 _ _ upd_same)) (tus2.kt (Same.kt k34)).dp) .nil)))))
/-! ### caught -/
theorem takes_len {X : Cx} {W : WX} (tk : Takes X W) : Takes X (fun cls d σ H => σ.length = X.N.length → W cls d σ H) := fun u s' ⟨a, B, sI, pins, σ, H, cls, d, e, J, nb, up, sky, na, os, ag, hw⟩ => tk u s' ⟨a, B, sI, pins, σ, H, cls, d, e, J, nb, up, sky, na, os, ag, hw J.len⟩
/-- what always raises: the error is handed on as a value -/
def TTC (K : PySem.W.Frag) (CS : Addr) : (XK → Hp → VK → Prop) → Hp → VK → Prop := fun tl H Q =>
  ∀ Qn : VK, tl (fun cls d H' => PySem.W.exmOne K cls (.ref CS) = some true ∧ ∀ a, H' a = none → Q (.ref a) (upd H' a (ErrV cls d a))) H Qn
abbrev NCa : List Str := ["_law_action", "_law_found", "error"]
theorem sc_caught : FnScope NCa ["_law_action"] (defScope (top 42)) := ⟨rfl, rfl, rfl, by decide +kernel, rfl, by decide +kernel, by decide +kernel⟩
theorem caught_gives {X : Cx} {g CS : Addr} {cdg : Value} {q : Str} (hme : X.mg "OwnharmError" = some (.ref CS)) : LamX.GivesTo X NCa "_law_caught" (defScope (top 42)) g cdg (defBody (top 42)) "_law_action" q (TTC X.K CS) := by
  intro f c' s H Q tl act hc h
  have nd := sc_caught.nd
  refine ⟨_, pss_cons (ps_set (i := 1) nd rfl (Or.inl rfl) pe_non) (pss_cons (ps_try_asT (X := (cxOf CX0 X.prog X.w X.K X.mg X.base NCa "_law_caught" (defScope (top 42)) g cdg X.A X.stack s H E0).nox) (i := 2) (c := .ref CS)
    (tb := fun W D σ H => ∃ Ech : XK, (∀ cls d σ' H', σ'.length = 3 → Ech cls d H' → W cls d σ' H') ∧ σ[0]? = some (some (.ref f)) ∧ H c' = some (LamX.CodeO c' q) ∧ tl Ech H fun _ H' => D.nx σ H')
    rfl rfl rfl nd rfl rfl ⟨rfl, rfl, .inl hme⟩ (fun W pn xe tk _ => ?_) (fun a pn => pss_one (ps_set (i := 1) nd rfl (Or.inl rfl) (pv 2)))) (pss_one (ps_ret (pv 1)))), ?_⟩
  · refine ⟨fun pins s' σ H' D I h' => ?_⟩
    obtain ⟨Ech, hW, h1, h2, h3⟩ := h'
    exact (pss_one (ps_expr (act (fun cls d σ H => σ.length = 3 → W cls d σ H) pn xe Ech _ _ (takes_len tk) (fun cls d σ' H' e l => hW cls d σ' H' l e)))).run pins s' σ H' D I ⟨h1, h2, h3⟩
  · refine ⟨fun cls d H' => PySem.W.exmOne X.K cls (.ref CS) = some true ∧ ∀ a, H' a = none → Q (.ref a) (upd H' a (ErrV cls d a)), fun cls d σ' H' l e => ⟨e.1, fun a na => ?_⟩, rfl, hc, ?_⟩
    · match σ', l with
      | [x0, x1, x2], _ => exact ⟨_, rfl, _, rfl, e.2 a na⟩
    · exact h _
end K25
set_option maxHeartbeats 2000000
/-! claims on a heap, each with its own objects; what the law knows of its machines -/
namespace K25
open PySem PySem.Spec PyProof.Rows L2 He
/-- a claim: its objects, what holds, kept by whatever leaves its objects alone -/
structure Cl where
  fp : Addr → Prop
  ok : Hp → Prop
  keep : ∀ {H H1 : Hp} {F : Addr → Prop}, ok H → Off F H H1 → (∀ p, fp p → ¬ F p) → ok H1
  there : ∀ {H : Hp} {p : Addr}, ok H → fp p → H p ≠ none
def Sep (H : Hp) : List Cl → Prop
  | [] => True
  | c :: cs => c.ok H ∧ (∀ d ∈ cs, ∀ p, c.fp p → ¬ d.fp p) ∧ Sep H cs
section
variable {H H1 : Hp} {cs : List Cl} {c c' : Cl} {F : Addr → Prop} {i : Nat}
theorem Sep.off : ∀ {cs : List Cl}, Sep H cs → Off F H H1 → (∀ d ∈ cs, ∀ p, d.fp p → ¬ F p) → Sep H1 cs
  | [], _, _, _ => trivial
  | c :: cs, ⟨h1, h2, h3⟩, o, n => ⟨c.keep h1 o (n c List.mem_cons_self), h2, Sep.off h3 o fun d hd => n d (List.mem_cons_of_mem _ hd)⟩
theorem Sep.same (h : Sep H cs) (k : Same H H1) : Sep H1 cs := h.off (F := fun _ => False) (Off.same k) fun _ _ _ _ z => z
theorem Sep.get : ∀ {cs : List Cl} {i : Nat}, Sep H cs → cs[i]? = some c → c.ok H
  | [], i, _, e => by simp at e
  | d :: cs, 0, ⟨h1, _, _⟩, e => by
    have e' : d = c := by simpa using e
    exact e' ▸ h1
  | d :: cs, i + 1, ⟨_, _, h3⟩, e => Sep.get (i := i) h3 (by simpa using e)
/-- objects that are not tracked are none of the claims' -/
theorem Sep.out : ∀ {cs : List Cl}, Sep H cs → ∀ d ∈ cs, ∀ p, H p = none → ¬ d.fp p
  | d :: cs, ⟨h1, _, _⟩, _, .head _, p, np, z => d.there h1 z np
  | d :: cs, ⟨_, _, h3⟩, e, .tail _ hd, p, np, z => Sep.out h3 e hd p np z
theorem Sep.new (h : Sep H cs) (k : Same H H1) (hc : c.ok H1) (fr : ∀ p, c.fp p → H p = none) : Sep H1 (c :: cs) :=
  ⟨hc, fun d hd p hp z => h.out d hd p (fr p hp) z, h.same k⟩
theorem Sep.newO (h : Sep H cs) (o : Off c.fp H H1) (hc : c.ok H1) (fr : ∀ p, c.fp p → H p = none) : Sep H1 (c :: cs) :=
  ⟨hc, fun d hd p hp z => h.out d hd p (fr p hp) z, h.off o fun d hd p hp z => h.out d hd p (fr p z) hp⟩
theorem Sep.apart : ∀ {cs : List Cl} {i : Nat}, Sep H cs → cs[i]? = some c → ∀ j d, j ≠ i → cs[j]? = some d → ∀ p, d.fp p → ¬ c.fp p
  | [], i, _, e, _, _, _, _, _, _, _ => by simp at e
  | a :: cs, 0, ⟨_, h2, _⟩, e, j, d, hj, ed, p, hp, z => by
    have e' : a = c := by simpa using e
    subst e'
    cases j with
    | zero => exact hj rfl
    | succ j => exact h2 d (List.mem_of_getElem? (i := j) (by simpa using ed)) p z hp
  | a :: cs, i + 1, ⟨_, h2, h3⟩, e, j, d, hj, ed, p, hp, z => by
    cases j with
    | zero =>
      have e' : a = d := by simpa using ed
      subst e'
      exact h2 c (List.mem_of_getElem? (i := i) (by simpa using e)) p hp z
    | succ j => exact Sep.apart (i := i) h3 (by simpa using e) j d (fun q => hj (by rw [q])) (by simpa using ed) p hp z
theorem sep_of : ∀ {cs : List Cl}, (∀ (i : Nat) (c : Cl), cs[i]? = some c → c.ok H) → (∀ (i j : Nat) (c d : Cl), i < j → cs[i]? = some c → cs[j]? = some d → ∀ p, c.fp p → ¬ d.fp p) → Sep H cs
  | [], _, _ => trivial
  | a :: cs, h1, h2 => ⟨h1 0 a rfl, fun d hd p hp => by
      obtain ⟨j, hj, e⟩ := List.mem_iff_getElem.mp hd
      exact h2 0 (j + 1) a d (Nat.succ_pos j) rfl (by show cs[j]? = some d; rw [List.getElem?_eq_getElem hj, e]) p hp,
    sep_of (fun i c e => h1 (i + 1) c e) fun i j c d lt e1 e2 => h2 (i + 1) (j + 1) c d (Nat.succ_lt_succ lt) e1 e2⟩
/-- one claim's objects changed; it may have got new ones -/
theorem Sep.upd (h : Sep H cs) (e : cs[i]? = some c) (o : Off c.fp H H1) (k : c'.ok H1) (f : ∀ p, c'.fp p → c.fp p ∨ H p = none) : Sep H1 (cs.set i c') := by
  have hl : i < cs.length := (List.getElem?_eq_some_iff.mp e).1
  refine sep_of (fun j d ed => ?_) fun j l d u lt ed eu p hp z => ?_
  · by_cases hj : j = i
    · subst hj
      rw [List.getElem?_set_self hl] at ed
      cases ed
      exact k
    · rw [List.getElem?_set_ne (Ne.symm hj)] at ed
      exact d.keep (h.get ed) o fun p hp => h.apart e j d hj ed p hp
  · by_cases hj : j = i
    · subst hj
      rw [List.getElem?_set_self hl] at ed
      cases ed
      rw [List.getElem?_set_ne (Nat.ne_of_lt lt)] at eu
      rcases f p hp with hp | hp
      · exact h.apart e l u (Nat.ne_of_gt lt) eu p z hp
      · exact h.out u (List.mem_of_getElem? eu) p hp z
    · rw [List.getElem?_set_ne (Ne.symm hj)] at ed
      by_cases hl2 : l = i
      · subst hl2
        rw [List.getElem?_set_self hl] at eu
        cases eu
        rcases f p z with z | z
        · exact h.apart e j d hj ed p hp z
        · exact h.out d (List.mem_of_getElem? ed) p z hp
      · rw [List.getElem?_set_ne (Ne.symm hl2)] at eu
        exact h.apart eu j d (Nat.ne_of_lt lt) ed p hp z
/-- the same, and a new claim -/
theorem Sep.updNew {d : Cl} (h : Sep H cs) (e : cs[i]? = some c) (o : Off c.fp H H1) (k : c'.ok H1) (f : ∀ p, c'.fp p → c.fp p) (hd : d.ok H1) (fr : ∀ p, d.fp p → H p = none) : Sep H1 (d :: cs.set i c') := by
  refine ⟨hd, fun u hu p hp z => ?_, h.upd e o k fun p hp => .inl (f p hp)⟩
  rcases List.mem_or_eq_of_mem_set hu with hu | hu
  · exact h.out u hu p (fr p hp) z
  · rw [hu] at z
    exact h.out c (List.mem_of_getElem? e) p (fr p hp) (f p z)
/-- the first claim is given up -/
theorem Sep.tail (h : Sep H (c :: cs)) : Sep H cs := h.2.2
/-- the claim at i is given up -/
theorem Sep.drop (h : Sep H cs) (i : Nat) : Sep H (cs.eraseIdx i) := by
  have sub : ∀ {cs : List Cl} {i : Nat}, Sep H cs → Sep H (cs.eraseIdx i) := by
    intro cs
    induction cs with
    | nil => intro i h; rw [List.eraseIdx_nil]; exact h
    | cons a cs ih =>
      intro i h
      cases i with
      | zero => exact h.2.2
      | succ i => exact ⟨h.1, fun d hd => h.2.1 d (List.mem_of_mem_eraseIdx hd), ih h.2.2⟩
  exact sub h
end
/-! ### the claims -/
def cS (a gr c : Addr) (n : Int) : Cl where
  fp := SF a gr c
  ok := LN a gr c n
  keep := fun h k n => h.off k n
  there := fun h k e => by
    obtain ⟨o, q, _⟩ := h.there k
    rw [e] at q
    cases q
def cM (C : Addr) (A : MA) (b : Bd) (s : MS) : Cl where
  fp := A.foot
  ok := fun H => MAt C H A b s
  keep := fun h k n => MR.off h k n
  there := fun h k e => by
    obtain ⟨o, q, _⟩ := MR.there h k
    rw [e] at q
    cases q
/-- one object -/
def cO (p : Addr) (o : HO) : Cl where
  fp := fun q => q = p
  ok := fun H => H p = some o
  keep := fun h k n => k.at h (n p rfl)
  there := fun h k e => by
    rw [k, h] at e
    cases e
/-- a list of data -/
def cD (p : Addr) (ds : List PyData) : Cl where
  fp := fun q => q = p
  ok := fun H => ∃ vs, H p = some (.lst vs) ∧ TDs H vs ds
  keep := fun h k n => by
    obtain ⟨vs, h1, h2⟩ := h
    exact ⟨vs, k.at h1 (n p rfl), h2.kt k.kt⟩
  there := fun h k e => by
    obtain ⟨vs, h1, _⟩ := h
    rw [k, h1] at e
    cases e
/-- a list of lists of data, each at its own place -/
def cR (p : Addr) (qs : List Addr) (dss : List (List PyData)) : Cl where
  fp := fun q => q = p ∨ q ∈ qs
  ok := fun H => H p = some (.lst (qs.map V.ref)) ∧ qs.length = dss.length ∧ p ∉ qs ∧ ∀ (i : Nat) (q : Addr) (ds : List PyData), qs[i]? = some q → dss[i]? = some ds → ∃ vs, H q = some (.lst vs) ∧ TDs H vs ds
  keep := fun h k n => by
    obtain ⟨h1, h2, h4, h3⟩ := h
    refine ⟨k.at h1 (n p (.inl rfl)), h2, h4, fun i q ds e1 e2 => ?_⟩
    obtain ⟨vs, z1, z2⟩ := h3 i q ds e1 e2
    exact ⟨vs, k.at z1 (n q (.inr (List.mem_of_getElem? e1))), z2.kt k.kt⟩
  there := fun {H p'} h k e => by
    obtain ⟨h1, h2, h4, h3⟩ := h
    rcases k with k | k
    · rw [k, h1] at e
      cases e
    · obtain ⟨i, hi, ei⟩ := List.mem_iff_getElem.mp k
      have hj : i < dss.length := by omega
      obtain ⟨vs, z1, _⟩ := h3 i p' dss[i] (by rw [List.getElem?_eq_getElem hi, ei]) (List.getElem?_eq_getElem hj)
      rw [z1] at e
      cases e
/-! ### plain facts -/
theorem runN_zero (b : Bd) (s : MS) : runN b 0 s = s := rfl
/-- the sum of the first i portions -/
def sumT (l : List Int) (i : Nat) : Nat := (l.take i).sum.toNat
theorem sum_nonneg {l : List Int} (h : ∀ z ∈ l, 0 ≤ z) : 0 ≤ l.sum := by
  induction l with
  | nil => exact Int.le_refl 0
  | cons a l ih =>
    have h1 := h a List.mem_cons_self
    have h2 := ih fun z hz => h z (List.mem_cons_of_mem _ hz)
    rw [List.sum_cons]
    omega
theorem sum_le {l : List Int} {m : Int} (h : ∀ z ∈ l, z ≤ m) : l.sum ≤ m * l.length := by
  induction l with
  | nil => exact Int.le_of_eq (Int.mul_zero m).symm
  | cons a l ih =>
    have h1 := h a List.mem_cons_self
    have h2 := ih fun z hz => h z (List.mem_cons_of_mem _ hz)
    rw [List.sum_cons, List.length_cons]
    have e : m * ((l.length + 1 : Nat) : Int) = m * (l.length : Int) + m := by
      rw [Int.natCast_add, Int.mul_add]
      show m * (l.length : Int) + m * 1 = _
      rw [Int.mul_one]
    omega
theorem sumT_succ {l : List Int} (h : ∀ z ∈ l, 0 ≤ z) {i : Nat} {z : Int} (e : l[i]? = some z) : sumT l (i + 1) = sumT l i + z.toNat := by
  unfold sumT
  have h1 := sum_nonneg (l := l.take i) fun y hy => h y (List.mem_of_mem_take hy)
  have h2 := h z (List.mem_of_getElem? e)
  rw [List.take_succ, e, List.sum_append]
  show ((l.take i).sum + (z + 0)).toNat = _
  omega
theorem sumT_rest {l : List Int} (h : ∀ z ∈ l, 0 ≤ z) (i : Nat) : sumT l i + (l.drop i).sum.toNat = l.sum.toNat := by
  unfold sumT
  have h1 := sum_nonneg (l := l.take i) fun y hy => h y (List.mem_of_mem_take hy)
  have h2 := sum_nonneg (l := l.drop i) fun y hy => h y (List.mem_of_mem_drop hy)
  have e : l.sum = (l.take i).sum + (l.drop i).sum := by
    rw [← List.sum_append, List.take_append_drop]
  omega
theorem wf_cells {b : Bd} {s : MS} (h : WfM b s) {r a : Nat} {n : Int} (hr : r < s.cells.length) (hn : Num n) : WfM b { s with cells := s.cells.set r ((s.cells.getD r []).set a n) } := by
  have hm : s.cells.getD r [] ∈ s.cells := by
    rw [List.getD_eq_getElem?_getD, List.getElem?_eq_getElem hr]
    exact List.getElem_mem hr
  obtain ⟨c1, c2, c3⟩ := h.cs _ hm
  refine ⟨by show (s.cells.set _ _).length = _; rw [List.length_set]; exact h.cl, fun d hd => ?_, h.rl, h.rn, h.room, h.addr, h.asks, h.askl, h.row, h.rowl, h.steps⟩
  rcases List.mem_or_eq_of_mem_set hd with e | e
  · exact h.cs d e
  · rw [e, List.length_set]
    exact ⟨c1, c2, num_set c3 hn a⟩
theorem ite_same {v : V} {A B : Prop} (h : B) : if (!decide (v = v)) = true then A else B := by
  rw [decide_eq_true rfl]
  exact iteF h
def rInDL (K : PySem.W.Frag) : R2 := fun x y H Q => ∃ (d : PyData) (ds : List PyData), Dp K H x d ∧ Dp K H y (.list ds) ∧ SeqAt.shaped d = true ∧ SeqAt.shaped (.list ds) = true ∧ Q (.bl (ds.any fun z => PyData.eqv z d)) H
theorem op_inDL {X : Cx} (hu : X.A.units + 65 < cLine) : OpR X (compareOp .In) (rInDL X.K) := by
  intro pins s σ H x y v u Q I rx ry h
  obtain ⟨d, ds, hd, he, sd, se, q⟩ := h
  obtain ⟨as, r1⟩ := Dp.reads I d x v hd rx
  obtain ⟨bs, r2⟩ := Dp.reads I (.list ds) y u he ry
  exact SeqAt.in_list_reads r2 r1 (SeqAt.canLay_of_shaped se) (SeqAt.canLay_of_shaped sd) (room_in_shaped sd hu) ⟨.bl _, H, I, rfl, q⟩
theorem passes0 {X : Cx} {P : Program} {w : World} (hp : X.prog = P) (hw : X.w = w) : Passes (L2.CX P w) X fun _ _ _ => False := by
  subst hp hw
  exact passes_call LamX.takes0 fun _ _ _ _ h => h
theorem shaped_rows {b : Bd} {s : MS} (h : WfM b s) : SeqAt.shaped (.list s.rowD) = true := shaped_of (by simpa [plain] using row_plain h) (by
  have := row_depth (s := s)
  simp only [PyData.depth]
  omega)
theorem eqv_rows {b : Bd} {s : MS} (h : WfM b s) : PyData.eqv (.list s.rowD) (.list s.rowD) = true := eqv_self (by simpa [plain] using row_plain h)
theorem cutV_from (us : List V) {n : Int} (h : 0 ≤ n) : cutV us (some n) none = us.drop (min n.toNat us.length) := by
  show List.take (us.length - (if n < 0 then (n + (us.length : Int)).toNat else min n.toNat us.length)) (List.drop (if n < 0 then (n + (us.length : Int)).toNat else min n.toNat us.length) us) = _
  rw [if_neg (by omega), List.take_of_length_le]
  rw [List.length_drop]
  exact Nat.le_refl _
theorem TDs.drop {H : Hp} : ∀ {vs : List V} {ds : List PyData} (k : Nat), TDs H vs ds → TDs H (vs.drop k) (ds.drop k)
  | _, _, 0, h => h
  | _, [], k + 1, .nil => .nil
  | _, _ :: _, k + 1, .cons _ t => TDs.drop k t
theorem drop_plain {b : Bd} {s : MS} (h : WfM b s) (k : Nat) : plain (.list (s.rowD.drop k)) = true := by
  have : plainAll (s.rowD.drop k) = true := plainAll_of fun x hx => by
    obtain ⟨p, hp, rfl⟩ := List.mem_map.mp (List.mem_of_mem_drop hx)
    obtain ⟨a, _, c⟩ := h.row p hp
    exact plain_cr a c
  simpa [plain] using this
theorem drop_depth (s : MS) (k : Nat) : (PyData.list (s.rowD.drop k)).depth ≤ 64 := by
  have := depthAll_le (n := 1) (xs := s.rowD.drop k) fun x hx => by
    obtain ⟨p, hp, rfl⟩ := List.mem_map.mp (List.mem_of_mem_drop hx)
    exact depth_cr p
  simp only [PyData.depth]
  omega
theorem no_none {b : Bd} {s : MS} (hb : WfB b) (h : WfM b s) : SeqAt.shaped (.list (s.rowD ++ s.asksD)) = true ∧ ((s.rowD ++ s.asksD).any fun z => PyData.eqv z .none) = false := by
  refine ⟨shaped_of ?_ ?_, ?_⟩
  · have : plainAll (s.rowD ++ s.asksD) = true := plainAll_of fun x hx => by
      rcases List.mem_append.mp hx with hx | hx
      · obtain ⟨p, hp, rfl⟩ := List.mem_map.mp hx
        obtain ⟨a, _, c⟩ := h.row p hp
        exact plain_cr a c
      · obtain ⟨p, hp, rfl⟩ := List.mem_map.mp hx
        obtain ⟨a1, a2, a3, a4⟩ := h.asks p hp
        have := hb.n6
        exact plain_pair ⟨a1, by omega⟩ ⟨a3, a4⟩
    simpa [plain] using this
  · have := depthAll_le (n := 1) (xs := s.rowD ++ s.asksD) fun x hx => by
      rcases List.mem_append.mp hx with hx | hx
      · obtain ⟨p, hp, rfl⟩ := List.mem_map.mp hx
        exact depth_cr p
      · obtain ⟨p, hp, rfl⟩ := List.mem_map.mp hx
        exact depth_pair p
    simp only [PyData.depth]
    omega
  · rw [List.any_eq_false]
    intro x hx
    rcases List.mem_append.mp hx with hx | hx
    · obtain ⟨p, hp, rfl⟩ := List.mem_map.mp hx
      simp [crD, PyData.eqv]
    · obtain ⟨p, hp, rfl⟩ := List.mem_map.mp hx
      simp [pairD, PyData.eqv]
theorem MR.notbl {C : Addr} {H : Hp} {A : MA} {b : Bd} {s : MS} {stp : Int} {ad : PyData} (h : MR C H A b s stp ad) {p : Addr} (k : A.foot p) (ps : Array Value) : H p ≠ some (.tbl ps) := by
  have go : ∃ o, H p = some o ∧ o ≠ .tbl ps := by
    rcases k with e | k
    · obtain ⟨vb, av, _, _, q⟩ := h.ex
      exact ⟨_, by rw [e]; exact q, fun z => by cases z⟩
    · rcases List.mem_cons.mp k with e | k
      · exact ⟨_, by rw [e]; exact h.cl, fun z => by cases z⟩
      · rcases List.mem_cons.mp k with e | k
        · exact ⟨_, by rw [e]; exact h.rg, fun z => by cases z⟩
        · rcases List.mem_cons.mp k with e | k
          · obtain ⟨vs, q, _⟩ := h.row
            exact ⟨_, by rw [e]; exact q, fun z => by cases z⟩
          · rcases List.mem_cons.mp k with e | k
            · obtain ⟨vs, q, _⟩ := h.asks
              exact ⟨_, by rw [e]; exact q, fun z => by cases z⟩
            · obtain ⟨i, hi, e⟩ := List.mem_iff_getElem.mp k
              obtain ⟨l1, q⟩ := h.cs
              have hj : i < s.cells.length := by omega
              exact ⟨_, q i p s.cells[i] (by rw [List.getElem?_eq_getElem hi, e]) (List.getElem?_eq_getElem hj), fun z => by cases z⟩
  obtain ⟨o, e, n⟩ := go
  intro z
  rw [e] at z
  exact n (Option.some.inj z)
/-- what a new function and its code leave -/
theorem offExt {H H1 : Hp} (e : LamX.ExtN H H1) : Off (fun b => ∃ ps, H b = some (.tbl ps)) H H1 := fun b o h k => e b o h fun ps z => by
  obtain ⟨xs, q⟩ := k ⟨ps, by rw [h, z]⟩
  rw [z] at q
  cases q
theorem MR.ext {C : Addr} {H H1 : Hp} {A : MA} {b : Bd} {s : MS} {stp : Int} {ad : PyData} (h : MR C H A b s stp ad) (e : LamX.ExtN H H1) : MR C H1 A b s stp ad :=
  h.off (offExt e) fun p hp ⟨ps, z⟩ => h.notbl hp ps z
theorem kit_self (K : PySem.W.Frag) (a : Addr) : PySem.W.kitOne K (.ref a) (.ref a) = some true := by
  unfold PySem.W.kitOne
  rw [if_pos (by simp)]
theorem mode_ne (md : Mode) : (!decide (V.str md.str = V.str "running")) = !decide (md = .run) := by rw [mode_run]
end K25
set_option maxHeartbeats 2000000
/-! the law -/
namespace K25
open PySem PySem.Spec PyProof.Rows L2 He
variable {P : Program} {w : World} {K : PySem.W.Frag} {mg : Str → Option Value} {base : Heap}
abbrev lamQ : Str := ("law" : Str) ++ (".<locals>." : Str) ++ ("<lambda>" : Str)
def spLaw (K : PySem.W.Frag) (P0 : Addr) : Sp := fun vs H Q _ => ∃ (p : Addr) (ns : List Int), vs = [.ref p] ∧ SqL K H p (ns.map V.int) ∧ ns.length ≤ 1000 ∧ H P0 = some (.tbl #[]) ∧ ∀ H', Q (.bl true) H'
abbrev NLaw : List Str := ["_law_script", "_law_state", "_law_many", "_law_board_here", "_law_number", "_law_portions", "_law_whole", "_law_cut", "_law_rows", "_law_at", "_law_twin", "_law_spot", "_law_portion", "_law_one", "_law_other", "_law_halted", "_law_free", "_law_kept", "_law_room", "_law_after", "_law_row", "_law_ahead", "_law_bad", "_law_turn"]
theorem sc_law : FnScope NLaw ["_law_script"] (defScope (top 52)) := ⟨rfl, rfl, rfl, by decide +kernel, rfl, by decide +kernel, by decide +kernel⟩
theorem ok_law (T : Txt K mg) {fd : FuncData} (F : FnI K (dG "law" 52) (ga K "law") fd) {c0 P0 : Addr} (hc0 : ∀ cdv, CodeAt K (ga K "law") cdv → cdv = .ref c0) (TB : LamX.TabB base mg c0 P0) :
    FnOkG P w K mg base CX0 14 (ga K "law") fd ["_law_script"] (spLaw K P0) := by
  have D_law_begun := ok_begun (P := P) (w := w) (base := base) T
  have D_law_draw := ok_draw (P := P) (w := w) (base := base) T
  have D_law_pick := ok_pick (P := P) (w := w) (base := base) T
  have D_law_small := ok_small (P := P) (w := w) (base := base) T
  have D_law_board := ok_bd (P := P) (w := w) (base := base) T
  have D_machine_row := ok_mrow (P := P) (w := w) (base := base) T
  have D_init := ok_init (P := P) (w := w) (base := base) T
  have D_go := ok_go (P := P) (w := w) (base := base) T
  have D_copy := ok_copy (P := P) (w := w) (base := base) T
  have D_put := ok_put (P := P) (w := w) (base := base) T
  have D_cells := ok_cells (P := P) (w := w) (base := base) T
  have D_moment := ok_moment (P := P) (w := w) (base := base) T
  have D_row := ok_prow (P := P) (w := w) (base := base) T
  have D_steps := ok_psteps (P := P) (w := w) (base := base) T
  have D_state := ok_pstate (P := P) (w := w) (base := base) T
  have D_open_asks := ok_popen_asks (P := P) (w := w) (base := base) T
  obtain ⟨fdT, Ft, bT, kpT⟩ := ok_told (P := P) (w := w) (base := base) T
  obtain ⟨fdC, FC⟩ := T.defs 21 (dG "_law_caught" 42) rfl
  have bC := FunD.bindsN FC (fun _ _ _ _ _ _ us hl => match us, hl with | [_], _ => rfl) (ps := ["_law_action"])
  have kpC := FC.kp
  obtain ⟨ocC, odC, dVC, kVC, docC, pmC, anC, cdvC, ctC, oslC, rfl, lkC, hcC, _, _⟩ := FC.ex
  refine okG F sc_law (fun vs H Q E h => ?_) (fun cdv A outer s H vs Q E hg hr hca _ h => ?_)
  · obtain ⟨_, _, rfl, _⟩ := h
    rfl
  · obtain ⟨p0, ns, rfl, hseq, hnl, hP, q⟩ := h
    have nd := sc_law.nd
    have hgu := hg
    obtain rfl := hc0 cdv hca
    refine ⟨_, PSs.nox (pss_cons (ps_set (i := 1) nd rfl (Or.inr rfl) (pe_def D_law_begun (hr.mono (by decide)) rfl (pa_cons (pv 0) pa_nil)))
    (pss_cons (ps_set (i := 2) nd rfl (Or.inl rfl) (pe_def D_law_pick (hr.mono (by decide)) rfl (pa_cons (pv 1) (pa_cons (pe_lst (pa_cons pe_int (pa_cons pe_int (pa_cons pe_int (pa_cons pe_int pa_nil))))) pa_nil))))
    (pss_cons (ps_asg (pe_tup (pa_cons (pe_def D_law_board (hr.mono (by decide)) rfl (pa_cons (pv 1) (pa_cons (pv 2) pa_nil))) (pa_cons (pe_def D_law_small (hr.mono (by decide)) rfl (pa_cons (pv 1) pa_nil)) pa_nil))) (pg_tup rfl (pgs_cons (pg_name (i := 3) nd rfl (Or.inr rfl)) (pgs_cons (pg_name (i := 4) nd rfl (Or.inr rfl)) pgs_nil))))
    (pss_cons (ps_setLc (i := 5) (own := [("_law_turn", 23)]) rfl nd rfl rfl (sw_true rfl rfl rfl (by decide +kernel)) (pi_range1 rfl T.f_range (pa_cons pe_int pa_nil)) (blkOk_by (N := NLaw) (sc := defScope (top 52)) (by decide +kernel)) (fun _ _ _ _ _ => by exact (pg_name (i := 23) nd rfl (Or.inl rfl))) (fun _ _ _ _ _ => by exact pts_nil) (fun _ _ _ _ _ => by exact (pe_def D_law_pick (hr.mono (by decide)) rfl (pa_cons (pv 1) (pa_cons (pe_lst (pa_cons pe_int (pa_cons pe_int (pa_cons pe_int (pa_cons pe_int (pa_cons pe_int pa_nil)))))) pa_nil)))))
    (pss_cons (ps_asg (pe_tup (pa_cons (pe_mach D_init (hr.mono (by decide)) T rfl pass0 (pa_cons (pv 3) (pa_cons (pv 4) pa_nil))) (pa_cons (pe_mach D_init (hr.mono (by decide)) T rfl pass0 (pa_cons (pv 3) (pa_cons (pv 4) pa_nil))) pa_nil))) (pg_tup rfl (pgs_cons (pg_name (i := 6) nd rfl (Or.inl rfl)) (pgs_cons (pg_name (i := 7) nd rfl (Or.inr rfl)) pgs_nil))))
    (pss_cons (ps_expr (pe_me (i := 0) (pv 6) T rfl D_go (hr.mono (by decide)) (passes0 rfl rfl) (pa_cons (pe_cB (id := "sum") (cr_sum rfl) rfl T.f_sum (by decide +kernel) (pv 5)) pa_nil)))
    (pss_cons (ps_par (i := 8) (j := 9) (by rfl) nd rfl rfl (by decide) rfl rfl (pa_cons (pe_lst pa_nil) (pa_cons (pe_def D_law_draw (hr.mono (by decide)) rfl (pa_cons (pv 1) (pa_cons pe_int pa_nil))) pa_nil)) (by rfl))
    (pss_cons (ps_set (i := 10) nd rfl (Or.inl rfl) (pe_me0 (i := 4) (pv 7) T rfl D_copy (hr.mono (by decide)) pass0))
    (pss_cons (ps_for PassesOwn.never rfl (pi_enum (by rfl) T.f_enumerate (pa_cons (pv 5) pa_nil)) (pg_tup rfl (pgs_cons (pg_name (i := 11) nd rfl (Or.inl rfl)) (pgs_cons (pg_name (i := 12) nd rfl (Or.inl rfl)) pgs_nil))) (pss_cons (ps_expr (pe_me (i := 0) (pv 7) T rfl D_go (hr.mono (by decide)) (passes0 rfl rfl) (pa_cons (pv 12) pa_nil)))
      (pss_cons (ps_expr (pe_bm PySem.F.plainAttrs_list PySem.F.slot_list_append PySem.F.type_list_append mt_append (pv 8) (pa_cons (pe_pr (i := 0) (pv 7) T rfl D_row (hr.mono (by decide)) rfl) pa_nil)))
      (pss_one (ps_if (pt_cmpR op_eq (pv 11) (pv 9) (nomark _)) (pss_one (ps_set (i := 10) nd rfl (Or.inl rfl) (pe_me0 (i := 4) (pv 7) T rfl D_copy (hr.mono (by decide)) pass0))) pss_nil)))))
    (pss_cons (ps_if (PW.pt (pw_or (pt_cmpR op_ne (pe_callG Ft hgu (hr.mono (by decide)) rfl (T.glo 30 "_law_told" rfl) kpT bT pass0 (pa_cons (pv 6) pa_nil)) (pe_callG Ft hgu (hr.mono (by decide)) rfl (T.glo 30 "_law_told" rfl) kpT bT pass0 (pa_cons (pv 7) pa_nil)) (nomark _)) (pw_or1 (pt_cmpR (op_neD (u64 hr)) (pe_defX D_machine_row (hr.mono (by decide)) rfl (passes0 rfl rfl) (pa_cons (pv 3) (pa_cons (pv 4) (pa_cons (pe_cB (id := "sum") (cr_sum rfl) rfl T.f_sum (by decide +kernel) (pv 5)) pa_nil)))) (pe_pr (i := 0) (pv 6) T rfl D_row (hr.mono (by decide)) rfl) (nomark _))))) (pss_one (ps_ret pe_bl)) pss_nil)
    (pss_cons (ps_for PassesOwn.never rfl (pi_zip (by rfl) T.f_zip (pa_cons (pv 8) (pa_cons (pe_slice sl_list (pv 8) (po_some pe_int) po_none) pa_nil))) (pg_tup rfl (pgs_cons (pg_name (i := 13) nd rfl (Or.inl rfl)) (pgs_cons (pg_name (i := 14) nd rfl (Or.inl rfl)) pgs_nil))) (pss_one (ps_if (pt_cmpR (op_neD (u64 hr)) (pe_slice sl_list (pv 14) po_none (po_some (pe_cB (id := "len") call_len (by rfl) T.f_len PySem.boot_len (pv 13)))) (pv 13) (nomark _)) (pss_one (ps_ret pe_bl)) pss_nil)))
    (pss_cons (ps_set (i := 15) nd rfl (Or.inl rfl) (pe_cmpR op_ne (pe_pr (i := 2) (pv 7) T rfl D_state (hr.mono (by decide)) rfl) pe_str (nomark _)))
    (pss_cons (ps_if (PW.pt (pw_or (pt_cmpR op_gt (pe_pr (i := 1) (pv 7) T rfl D_steps (hr.mono (by decide)) rfl) (pe_cB (id := "sum") (cr_sum rfl) rfl T.f_sum (by decide +kernel) (pv 5)) (nomark _)) (pw_or1 (PW.pt (pw_and (pt_not (pt_val (pv 15))) (pw_and1 (pt_cmpR op_ne (pe_pr (i := 1) (pv 7) T rfl D_steps (hr.mono (by decide)) rfl) (pe_cB (id := "sum") (cr_sum rfl) rfl T.f_sum (by decide +kernel) (pv 5)) (nomark _)))))))) (pss_one (ps_ret pe_bl)) pss_nil)
    (pss_cons (ps_if (PW.pt (pw_and (pt_cmpR op_eq (pe_callG Ft hgu (hr.mono (by decide)) rfl (T.glo 30 "_law_told" rfl) kpT bT pass0 (pa_cons (pv 10) pa_nil)) (pe_callG Ft hgu (hr.mono (by decide)) rfl (T.glo 30 "_law_told" rfl) kpT bT pass0 (pa_cons (pv 7) pa_nil)) (nomark _)) (pw_and (pt_cmpR op_gt (pe_cB (id := "sum") (cr_sum rfl) rfl T.f_sum (by decide +kernel) (pe_slice sl_list (pv 5) (po_some (pe_op op_add (pv 9) pe_int)) po_none)) pe_int (nomark _)) (pw_and1 (pt_not (pt_val (pv 15))))))) (pss_one (ps_ret pe_bl)) pss_nil)
    (pss_cons (ps_par (i := 16) (j := 17) (by rfl) nd rfl rfl (by decide) rfl rfl (pa_cons (pe_me0 (i := 4) (pv 10) T rfl D_copy (hr.mono (by decide)) pass0) (pa_cons (pe_callG Ft hgu (hr.mono (by decide)) rfl (T.glo 30 "_law_told" rfl) kpT bT pass0 (pa_cons (pv 10) pa_nil)) pa_nil)) (by rfl))
    (pss_cons (ps_set (i := 18) nd rfl (Or.inl rfl) (pe_def D_law_draw (hr.mono (by decide)) rfl (pa_cons (pv 1) (pa_cons (pv 2) pa_nil))))
    (pss_cons (ps_expr (pe_me (i := 3) (pv 16) T rfl D_put (hr.mono (by decide)) pass0 (pa_cons (pv 18) (pa_cons (pe_def D_law_draw (hr.mono (by decide)) rfl (pa_cons (pv 1) (pa_cons (pe_cB (id := "len") call_len (by rfl) T.f_len PySem.boot_len (pe_me (i := 2) (pv 16) T rfl D_cells (hr.mono (by decide)) pass0 (pa_cons (pv 18) pa_nil))) pa_nil))) (pa_cons (pe_def D_law_small (hr.mono (by decide)) rfl (pa_cons (pv 1) pa_nil)) pa_nil)))))
    (pss_cons (ps_expr (pe_me (i := 0) (pv 16) T rfl D_go (hr.mono (by decide)) (passes0 rfl rfl) (pa_cons pe_int pa_nil)))
    (pss_cons (ps_if (pt_cmpR op_ne (pe_callG Ft hgu (hr.mono (by decide)) rfl (T.glo 30 "_law_told" rfl) kpT bT pass0 (pa_cons (pv 10) pa_nil)) (pv 17) (nomark _)) (pss_one (ps_ret pe_bl)) pss_nil)
    (pss_cons (ps_expr (pe_me (i := 0) (pv 10) T rfl D_go (hr.mono (by decide)) (passes0 rfl rfl) (pa_cons (pe_cB (id := "sum") (cr_sum rfl) rfl T.f_sum (by decide +kernel) (pe_slice sl_list (pv 5) (po_some (pe_op op_add (pv 9) pe_int)) po_none)) pa_nil)))
    (pss_cons (ps_if (pt_cmpR op_ne (pe_callG Ft hgu (hr.mono (by decide)) rfl (T.glo 30 "_law_told" rfl) kpT bT pass0 (pa_cons (pv 10) pa_nil)) (pe_callG Ft hgu (hr.mono (by decide)) rfl (T.glo 30 "_law_told" rfl) kpT bT pass0 (pa_cons (pv 7) pa_nil)) (nomark _)) (pss_one (ps_ret pe_bl)) pss_nil)
    (pss_cons (ps_set (i := 19) nd rfl (Or.inl rfl) (pe_me0 (i := 4) (pv 7) T rfl D_copy (hr.mono (by decide)) pass0))
    (pss_cons (ps_par (i := 20) (j := 21) (by rfl) nd rfl rfl (by decide) rfl rfl (pa_cons (pe_pr (i := 0) (pv 19) T rfl D_row (hr.mono (by decide)) rfl) (pa_cons (pe_cB (id := "len") call_len (by rfl) T.f_len PySem.boot_len (pe_pr (i := 0) (pv 19) T rfl D_row (hr.mono (by decide)) rfl)) pa_nil)) (by rfl))
    (pss_cons (ps_expr (pe_bm PySem.F.plainAttrs_list PySem.F.slot_list_append PySem.F.type_list_append mt_append (pv 20) (pa_cons pe_non pa_nil)))
    (pss_cons (ps_expr (pe_bm PySem.F.plainAttrs_list PySem.F.slot_list_append PySem.F.type_list_append mt_append (pe_pr (i := 4) (pv 19) T rfl D_open_asks (hr.mono (by decide)) rfl) (pa_cons pe_non pa_nil)))
    (pss_cons (ps_expr (pe_me (i := 0) (pv 19) T rfl D_go (hr.mono (by decide)) (passes0 rfl rfl) (pa_cons pe_int pa_nil)))
    (pss_cons (ps_expr (pe_me (i := 0) (pv 7) T rfl D_go (hr.mono (by decide)) (passes0 rfl rfl) (pa_cons pe_int pa_nil)))
    (pss_cons (ps_if (PW.pt (pw_or (pt_cmpR (op_neD (u64 hr)) (pe_slice sl_list (pe_pr (i := 0) (pv 19) T rfl D_row (hr.mono (by decide)) rfl) (po_some (pv 21)) po_none) (pe_slice sl_list (pe_pr (i := 0) (pv 7) T rfl D_row (hr.mono (by decide)) rfl) (po_some (pv 21)) po_none) (nomark _)) (pw_or1 (pt_cmpR (op_neD (u64 hr)) (pe_me0 (i := 5) (pv 19) T rfl D_moment (hr.mono (by decide)) pass0) (pe_me0 (i := 5) (pv 7) T rfl D_moment (hr.mono (by decide)) pass0) (nomark _))))) (pss_one (ps_ret pe_bl)) pss_nil)
    (pss_cons (ps_if (pt_cmpR (op_inDL (units65 hr)) pe_non (pe_op op_cat (pe_pr (i := 0) (pv 19) T rfl D_row (hr.mono (by decide)) rfl) (pe_pr (i := 4) (pv 19) T rfl D_open_asks (hr.mono (by decide)) rfl)) (by rfl)) (pss_one (ps_ret pe_bl)) pss_nil)
    (pss_cons (ps_for PassesOwn.never rfl (pi_list (pe_lst (pa_cons pe_non (pa_cons (pe_un un_neg pe_int) (pa_cons pe_bl (pa_cons pe_str (pa_cons (pe_op op_add (pe_op op_pow pe_int pe_int) pe_int) pa_nil))))))) (pg_name (i := 22) nd rfl (Or.inr rfl)) (pss_cons (ps_if (pt_not (pt_val (pe_callB (call_isErr T.err) rfl T.f_isinstance (by decide +kernel) (pa_cons (LamX.pe_lamcall (T := [(P0, lamQ)]) (TT := TTC K (ga K "OwnharmError")) (k := 9) (t := fun E => tMeth (CM K) "go" (spGo K) [] E (tVar 7) (tCons (tVar 22) tNil)) rfl (T.glo 21 "_law_caught" rfl) kpC lkC hcC bC sc_caught rfl (.inl rfl) (caught_gives (T.glo 33 "OwnharmError" rfl)) TB rfl (by exact List.mem_cons_self) (fun p hp _ => by have e := List.mem_singleton.mp hp; subst e; rfl) (hr.mono (by decide)) (LamX.lamS_by (sc := defScope (top 52)) (by decide +kernel)) rfl (fun _ _ _ _ _ => rfl) (fun A outer s H E f c' hr2 => by exact (pe_me (i := 0) (pv 7) T rfl D_go (hr2.mono (by decide)) (passes_call (W := fun cls d _ H => E cls d H) (takes_of rfl rfl rfl rfl) (fun _ _ _ _ h => h)) (pa_cons (pv 22) pa_nil)))) (pa_cons (pe_glob (v := .ref (ga K "BadSteps")) rfl (T.glo 32 "BadSteps" rfl) rfl) pa_nil))))) (pss_one (ps_ret pe_bl)) pss_nil)
      (pss_one (ps_if (pt_not (pt_val (pe_callB (call_isErr T.err) rfl T.f_isinstance (by decide +kernel) (pa_cons (LamX.pe_lamcall (T := [(P0, lamQ)]) (TT := TTC K (ga K "OwnharmError")) (k := 9) (t := fun E => tCall (spMRow K) [] E (tCons (tVar 3) (tCons (tVar 4) (tCons (tVar 22) tNil)))) rfl (T.glo 21 "_law_caught" rfl) kpC lkC hcC bC sc_caught rfl (.inl rfl) (caught_gives (T.glo 33 "OwnharmError" rfl)) TB rfl (by exact List.mem_cons_self) (fun p hp _ => by have e := List.mem_singleton.mp hp; subst e; rfl) (hr.mono (by decide)) (LamX.lamS_by (sc := defScope (top 52)) (by decide +kernel)) rfl (fun _ _ _ _ _ => rfl) (fun A outer s H E f c' hr2 => by exact (pe_defX D_machine_row (hr2.mono (by decide)) rfl (passes_call (W := fun cls d _ H => E cls d H) (takes_of rfl rfl rfl rfl) (fun _ _ _ _ h => h)) (pa_cons (pv 3) (pa_cons (pv 4) (pa_cons (pv 22) pa_nil)))))) (pa_cons (pe_glob (v := .ref (ga K "BadSteps")) rfl (T.glo 32 "BadSteps" rfl) rfl) pa_nil))))) (pss_one (ps_ret pe_bl)) pss_nil))))
    (pss_one (ps_ret pe_bl)))))))))))))))))))))))))))))))), ?_⟩
    have hBT : BigT = 1000000000 := rfl
    -- begun, many
    refine ⟨_, rfl, p0, ns, rfl, hseq, hnl, fun H1 a gr c k1 fr1 L1 => ?_⟩
    have S1 : Sep H1 [cS a gr c 0, cO P0 (.tbl #[])] := (show Sep H [cO P0 (.tbl #[])] from ⟨hP, fun d hd => (by cases hd), trivial⟩).new (c := cS a gr c 0) k1 L1 fr1
    refine ⟨_, rfl, Nat.le_of_ble_eq_true rfl, fun q1 nq1 => ⟨a, gr, c, q1, 0, [.int 2, .int 3, .int 1, .int 4], rfl, .inl ⟨upd_same, L1.out nq1⟩, Nat.le_of_ble_eq_true rfl, Nat.le_of_ble_eq_true rfl, L1.same (same_new nq1), by omega, fun H2 x hx L2' o2 => ?_⟩⟩
    obtain ⟨many, hmany, rfl⟩ := int_of (l := [2, 3, 1, 4]) hx
    have hm : 1 ≤ many ∧ many ≤ 4 := by
      simp only [List.mem_cons, List.not_mem_nil, or_false] at hmany
      omega
    have S2 : Sep H2 [cS a gr c (0 + 1), cO P0 (.tbl #[])] := (S1.same (same_new nq1)).upd (i := 0) (c' := cS a gr c (0 + 1)) rfl o2 L2' fun p hp => .inl hp
    -- board, number
    refine ⟨_, rfl, _, rfl, a, gr, c, _, many, rfl, hm.1, hm.2, L2', by omega, fun H3 bv b tb hb hbl L3 o3 => ⟨_, rfl, a, gr, c, _, rfl, L3, by omega, fun H4 num hnum L4 o4 => ⟨Nat.le_of_ble_eq_true rfl, fun t1 nt1 => ⟨t1, _, rfl, SqT.of upd_same, rfl, _, _, rfl, _, _, rfl, rfl, ?_⟩⟩⟩⟩
    have S3 : Sep H3 [cS a gr c (0 + 1 + 3000), cO P0 (.tbl #[])] := S2.upd (i := 0) (c' := cS a gr c (0 + 1 + 3000)) rfl o3 L3 fun p hp => .inl hp
    have S4 : Sep H4 [cS a gr c 4000, cO P0 (.tbl #[])] := S3.upd (i := 0) (c' := cS a gr c 4000) rfl o4 (L4.le (by omega)) fun p hp => .inl hp
    have S5 := S4.same (same_new (o := .tup [bv, .int num]) nt1)
    have tb5 := (tb.kt o4.kt).kt (Same.kt (same_new (o := .tup [bv, .int num]) nt1))
    generalize upd H4 t1 (.tup [bv, .int num]) = H5 at S5 tb5 ⊢
    clear S1 S2 S3 S4 L1 L2' L3 L4 tb
    -- portions
    have L5 : LN a gr c 4000 H5 := S5.get (i := 0) rfl
    refine ⟨_, rfl, by decide, by decide, fun D nD => lc_it walk_range (fun i H' => ∃ l : List Int, l.length = i ∧ IL H' D l ∧ (∀ z ∈ l, 0 ≤ z ∧ z ≤ 20) ∧ LN a gr c (4000 + i) H' ∧ Off (SF a gr c) H5 H') ⟨[], rfl, upd_same, fun z hz => (by cases hz), (L5.same (same_new nD)).le (by omega), Off.new nD⟩ (fun _ _ _ _ => trivial) ?_ ?_⟩
    · rintro i x H6 H7 hi ⟨l, ll, e1, e2, e3, e4⟩ ⟨rfl, rfl⟩
      have hi : i < 5 := hi
      have nD' : ¬ SF a gr c D := L5.out nD
      refine ⟨rfl, _, rfl, Nat.le_of_ble_eq_true rfl, fun q1 nq1 => ⟨a, gr, c, q1, _, [.int 1, .int 0, .int 7, .int 20, .int 3], rfl, .inl ⟨upd_same, e3.out nq1⟩, Nat.le_of_ble_eq_true rfl, Nat.le_of_ble_eq_true rfl, e3.same (same_new nq1), by omega, fun H8 x hx L8 o8 => ?_⟩⟩
      obtain ⟨z, hz, rfl⟩ := int_of (l := [1, 0, 7, 20, 3]) hx
      have hz' : 0 ≤ z ∧ z ≤ 20 := by
        simp only [List.mem_cons, List.not_mem_nil, or_false] at hz
        omega
      have o78 := (Off.new (F := SF a gr c) (o := .lst [.int 1, .int 0, .int 7, .int 20, .int 3]) nq1).trans o8
      refine ⟨l.map V.int, o78.at e1 nD', ?_, l ++ [z], ?_, ?_, ?_, ?_, ?_⟩
      · rw [List.length_map]
        show l.length < 16777216
        omega
      · rw [List.length_append, ll]
        rfl
      · show (upd H8 D _) D = _
        rw [upd_same, List.map_append]
        rfl
      · intro y hy
        rcases List.mem_append.mp hy with hy | hy
        · exact e2 y hy
        · rw [List.mem_singleton.mp hy]
          exact hz'
      · refine (L8.le (by omega)).off (F := fun b => b = D) (Off.upd rfl (lst_not (o78.at e1 nD'))) ?_
        rintro b hb e
        exact nD' (e ▸ hb)
      · intro b v e ke
        rw [upd_ne (ne_of_none e nD)]
        exact (e4.trans o78) b v e ke
    rintro H6 ⟨l, ll, e1, e2, e3, e4⟩
    have ll : l.length = 5 := ll
    have S6 : Sep H6 [cO D (.lst (l.map V.int)), cS a gr c 4005, cO P0 (.tbl #[])] := S5.updNew (i := 0) (c' := cS a gr c 4005) (d := cO D (.lst (l.map V.int))) rfl e4 (e3.le (by have : (((5 : Int).toNat : Nat) : Int) = 5 := rfl; omega)) (fun p hp => hp) e1 (fun p hp => by rw [show p = D from hp]; exact nD)
    have tb6 := tb5.kt e4.kt
    clear e1 e3 e4 L5 S5 tb5
    have hs0 : ∀ z ∈ l, 0 ≤ z := fun z hz => (e2 z hz).1
    have hsum0 : 0 ≤ l.sum := sum_nonneg hs0
    have hsum1 : l.sum ≤ 100 := by
      have := sum_le (m := 20) fun z hz => (e2 z hz).2
      rw [ll] at this
      exact this
    -- whole, cut
    refine ⟨_, rfl, _, rfl, fun x dx nx ndx ne => mk_rd nx ndx ne tb6 hb hnum fun H7 A1 em fr7 k7 m7 => ⟨rfl, ?_⟩⟩
    subst em
    have wf0 := init_wf hb hnum
    have st0 : (initS b num).steps = 0 := rfl
    have md0 : (initS b num).mode = .run := rfl
    have hrow0 : b = b := rfl
    obtain ⟨s0, hs0e⟩ : ∃ s, s = initS b num := ⟨_, rfl⟩
    have S7 : Sep H7 [cM (CM K) A1 b (initS b num), cO D (.lst (l.map V.int)), cS a gr c 4005, cO P0 (.tbl #[])] := S6.new (c := cM (CM K) A1 b (initS b num)) k7 m7 fr7
    have tb7 := tb6.kt (Same.kt k7)
    refine ⟨_, rfl, _, rfl, fun x dx nx ndx ne => mk_rd nx ndx ne tb7 hb hnum fun H8 A2 em fr8 k8 m8 => ⟨rfl, Nat.le_of_ble_eq_true rfl, fun t2 nt2 => ⟨t2, _, rfl, SqT.of upd_same, rfl, _, _, rfl, _, _, rfl, rfl, ?_⟩⟩⟩
    subst em
    have S8 : Sep H8 [cM (CM K) A2 b (initS b num), cM (CM K) A1 b (initS b num), cO D (.lst (l.map V.int)), cS a gr c 4005, cO P0 (.tbl #[])] := S7.new (c := cM (CM K) A2 b (initS b num)) k8 m8 fr8
    have S9 := S8.same (same_new (o := .tup [.ref A1.m, .ref A2.m]) nt2)
    have tb9 := (tb7.kt (Same.kt k8)).kt (Same.kt (same_new (o := .tup [.ref A1.m, .ref A2.m]) nt2))
    generalize upd H8 t2 (.tup [.ref A1.m, .ref A2.m]) = H9 at S9 tb9 ⊢
    rw [← hs0e] at S9 wf0 st0 md0
    clear S6 S7 S8 tb6 tb7 m7 m8 k7 k8 fr7 fr8
    -- the states of the cut machine
    obtain ⟨sAt, hsAt⟩ : ∃ f : Nat → MS, f = fun i => runN b (sumT l i) s0 := ⟨_, rfl⟩
    have sAt0 : sAt 0 = s0 := by rw [hsAt]; rfl
    have sAtS : ∀ {i : Nat} {z : Int}, l[i]? = some z → runN b z.toNat (sAt i) = sAt (i + 1) := fun {i z} e => by
      rw [hsAt]
      show runN b z.toNat (runN b (sumT l i) s0) = runN b (sumT l (i + 1)) s0
      rw [sumT_succ hs0 e, runN_add]
    have wfAt : ∀ i, WfM b (sAt i) := fun i => by
      rw [hsAt]
      exact run_wf hb _ _ wf0
    have hsT : ∀ i, (sumT l i : Int) ≤ 100 := fun i => by
      have := sumT_rest hs0 i
      omega
    have stAt : ∀ i, (sAt i).steps ≤ 100 := fun i => by
      have := (runN_steps b (sumT l i) s0).2.1
      have h2 := hsT i
      rw [hsAt]
      show (runN b (sumT l i) s0).steps ≤ 100
      omega
    have hT5 : sumT l 5 = l.sum.toNat := by
      unfold sumT
      rw [List.take_of_length_le (by omega)]
    -- whole.go
    obtain ⟨vb1, av1, y1⟩ := MR.mx (S9.get (i := 1) rfl : MAt (CM K) H9 A1 b s0)
    refine ⟨_, rfl, _, _, _, rfl, y1.m, lk_go, _, rfl, D, l, rfl, SqL.of (S9.get (i := 2) rfl), A1, b, s0, _, rfl, S9.get (i := 1) rfl, hb, wf0, by omega, .inl ⟨_, rfl, hsum0, by omega, fun H10 o10 m10 => ?_⟩⟩
    have m10 : MAt (CM K) H10 A1 b (sAt 5) := by
      rw [hsAt]
      show MAt (CM K) H10 A1 b (runN b (sumT l 5) s0)
      rw [hT5]
      exact m10
    have S10 : Sep H10 [cM (CM K) A2 b s0, cM (CM K) A1 b (sAt 5), cO D (.lst (l.map V.int)), cS a gr c 4005, cO P0 (.tbl #[])] := S9.upd (i := 1) (c' := cM (CM K) A1 b (sAt 5)) rfl o10 m10 fun p hp => .inl hp
    have tb10 := tb9.kt o10.kt
    clear S9 tb9 o10 m10 y1
    -- rows, at
    refine ⟨Nat.le_of_ble_eq_true rfl, fun r nr => ⟨_, rfl, a, gr, c, _, 5, rfl, (S10.same (same_new nr)).get (i := 3) rfl, by omega, by decide, by decide, fun H11 at_ at0 at1 L11 o11 => ⟨_, _, rfl, ?_⟩⟩⟩
    have S11 : Sep H11 [cR r [] [], cM (CM K) A2 b s0, cM (CM K) A1 b (sAt 5), cO D (.lst (l.map V.int)), cS a gr c 4006, cO P0 (.tbl #[])] :=
      (S10.new (c := cR r [] []) (same_new nr) ⟨upd_same, rfl, fun z => (by cases z), fun i q ds e => by simp at e⟩ (fun p hp => hp.elim (fun e => by rw [e]; exact nr) (fun z => by cases z))).upd (i := 4) (c' := cS a gr c 4006) rfl o11 L11 fun p hp => .inl hp
    have tb11 := (tb10.kt (Same.kt (same_new (o := .lst []) nr))).kt o11.kt
    clear S10 tb10 o11 L11
    -- twin
    obtain ⟨vb2, av2, y2⟩ := MR.mx (S11.get (i := 1) rfl : MAt (CM K) H11 A2 b s0)
    refine ⟨_, rfl, _, _, _, rfl, y2.m, lk_copy, A2, b, s0, rfl, S11.get (i := 1) rfl, hb, wf0, fun H12 A3 fr12 k12 m12 => ?_⟩
    have S12 : Sep H12 [cM (CM K) A3 b s0, cR r [] [], cM (CM K) A2 b s0, cM (CM K) A1 b (sAt 5), cO D (.lst (l.map V.int)), cS a gr c 4006, cO P0 (.tbl #[])] := S11.new (c := cM (CM K) A3 b s0) k12 m12 fr12
    have tb12 := tb11.kt (Same.kt k12)
    clear S11 tb11 k12 m12 fr12 y2
    -- the portions one by one
    obtain ⟨rowsOf, hrows⟩ : ∃ f : Nat → List (List PyData), f = fun i => (List.range i).map fun j => (sAt (j + 1)).rowD := ⟨_, rfl⟩
    have rows0 : rowsOf 0 = [] := by rw [hrows]; rfl
    have rowsS : ∀ i, rowsOf (i + 1) = rowsOf i ++ [(sAt (i + 1)).rowD] := fun i => by
      rw [hrows]
      show (List.range (i + 1)).map _ = _
      rw [List.range_succ, List.map_append]
      rfl
    refine ⟨_, rfl, D, _, rfl, SqL.of (S12.get (i := 4) rfl), for_it (walk_enum (xs := l.map V.int)) (fun i σ H' => ∃ (A3 : MA) (qs : List Addr) (o1 o2 : Option V), σ = [some (.ref p0), some (.ref a), some (.int many), some bv, some (.int num), some (.ref D), some (.ref A1.m), some (.ref A2.m), some (.ref r), some (.int at_), some (.ref A3.m), o1, o2, none, none, none, none, none, none, none, none, none, none, none] ∧
        Sep H' [cM (CM K) A3 b (if at_ < (i : Int) then sAt (at_.toNat + 1) else s0), cR r qs (rowsOf i), cM (CM K) A2 b (sAt i), cM (CM K) A1 b (sAt 5), cO D (.lst (l.map V.int)), cS a gr c 4006, cO P0 (.tbl #[])] ∧ TD H' bv (bdD b)) ⟨A3, [], none, none, rfl, ?_, tb12⟩ ?_ ?_ ?_⟩
    · rw [rows0, sAt0, if_neg (by omega)]
      exact S12
    · rintro i σ H' _ ⟨A4, qs, u1, u2, rfl, S, t⟩
      exact SqL.of (S.get (i := 4) rfl)
    · rintro i x σ H13 H14 hi ⟨A4, qs, u1, u2, rfl, S13, t13⟩ ⟨tt, x1, zv, rfl, ntt, rfl, ex, ez⟩
      cases ex
      have ez : (l.map V.int)[i]? = some zv := ez
      rw [List.getElem?_map] at ez
      obtain ⟨z, hz, rfl⟩ := Option.map_eq_some_iff.mp ez
      have hi5 : i < 5 := by
        have := (List.getElem?_eq_some_iff.mp hz).1
        omega
      obtain ⟨z0, z1⟩ := e2 z (List.mem_of_getElem? hz)
      have S14 := S13.same (same_new (o := .tup [.int (i : Int), .int z]) ntt)
      have t14 := t13.kt (Same.kt (same_new (o := .tup [.int (i : Int), .int z]) ntt))
      refine ⟨tt, _, rfl, SqT.of upd_same, rfl, _, _, rfl, _, _, rfl, rfl, ?_⟩
      generalize upd H13 tt (.tup [.int (i : Int), .int z]) = H14 at S14 t14 ⊢
      clear S13 t13
      -- cut.go(portion)
      obtain ⟨vbc, avc, yc⟩ := MR.mx (S14.get (i := 2) rfl : MAt (CM K) H14 A2 b (sAt i))
      have hst := stAt i
      refine ⟨_, rfl, _, _, _, rfl, yc.m, lk_go, _, rfl, A2, b, sAt i, _, rfl, S14.get (i := 2) rfl, hb, wfAt i, by omega, .inl ⟨z, rfl, z0, by omega, fun H15 o15 m15 => ?_⟩⟩
      rw [sAtS hz] at m15
      have S15 : Sep H15 [cM (CM K) A4 b (if at_ < (i : Int) then sAt (at_.toNat + 1) else s0), cR r qs (rowsOf i), cM (CM K) A2 b (sAt (i + 1)), cM (CM K) A1 b (sAt 5), cO D (.lst (l.map V.int)), cS a gr c 4006, cO P0 (.tbl #[])] := S14.upd (i := 2) (c' := cM (CM K) A2 b (sAt (i + 1))) rfl o15 m15 fun p hp => .inl hp
      have t15 := t14.kt o15.kt
      clear S14 t14 o15 m15 yc
      -- rows.append(cut.row)
      obtain ⟨vbd, avd, yd⟩ := MR.mx (S15.get (i := 2) rfl : MAt (CM K) H15 A2 b (sAt (i + 1)))
      obtain ⟨hr1, hr2, hr4, hr3⟩ := (S15.get (i := 1) rfl : (cR r qs (rowsOf i)).ok H15)
      refine ⟨_, rfl, .inl ⟨rfl, _, SqL.of hr1⟩, _, rfl, _, _, _, rfl, yd.m, A2, b, _, _, _, rfl, S15.get (i := 2) rfl, fun q us nq tus => ⟨_, _, _, rfl, rfl, (same_new nq) _ _ hr1, ?_, ?_⟩⟩
      · have e0 : (rowsOf i).length = i := by rw [hrows]; show ((List.range i).map _).length = i; rw [List.length_map, List.length_range]
        rw [List.length_map, hr2, e0]
        show i < 16777216
        omega
      have S16 : Sep (upd (upd H15 q (.lst us)) r (.lst (qs.map V.ref ++ [.ref q]))) [cM (CM K) A4 b (if at_ < (i : Int) then sAt (at_.toNat + 1) else s0), cR r (qs ++ [q]) (rowsOf (i + 1)), cM (CM K) A2 b (sAt (i + 1)), cM (CM K) A1 b (sAt 5), cO D (.lst (l.map V.int)), cS a gr c 4006, cO P0 (.tbl #[])] := by
        have nqr : q ≠ r := (ne_of_none hr1 nq).symm
        refine S15.upd (i := 1) (c' := cR r (qs ++ [q]) (rowsOf (i + 1))) rfl ((Off.new nq).trans (Off.upd (.inl rfl) (lst_not ((same_new nq) _ _ hr1)))) ⟨?_, ?_, fun z => (List.mem_append.mp z).elim hr4 fun z => nqr (List.mem_singleton.mp z).symm, fun j qj ds ej1 ej2 => ?_⟩ fun p hp => ?_
        · rw [upd_same, List.map_append]
          rfl
        · rw [rowsS, List.length_append, List.length_append, hr2]
          rfl
        · have kt : KT H15 (upd (upd H15 q (.lst us)) r (.lst (qs.map V.ref ++ [.ref q]))) := KT.trans (Same.kt (same_new nq)) (kt_upd (lst_not ((same_new nq) _ _ hr1)))
          rw [rowsS] at ej2
          by_cases hj : j < qs.length
          · rw [List.getElem?_append_left hj] at ej1
            rw [List.getElem?_append_left (by omega)] at ej2
            obtain ⟨vs, v1, v2⟩ := hr3 j qj ds ej1 ej2
            have mem := List.mem_of_getElem? ej1
            have nr : qj ≠ r := fun z => hr4 (z ▸ mem)
            exact ⟨vs, by rw [upd_ne nr]; exact (same_new nq) _ _ v1, v2.kt kt⟩
          · have hl' : j < (qs ++ [q]).length := (List.getElem?_eq_some_iff.mp ej1).1
            rw [List.length_append] at hl'
            have l1' : ([q] : List Addr).length = 1 := rfl
            have ej : j = qs.length := by omega
            subst ej
            rw [List.getElem?_append_right (Nat.le_refl _), Nat.sub_self] at ej1
            rw [List.getElem?_append_right (by omega), show qs.length - (rowsOf i).length = 0 by omega] at ej2
            have a1 : q = qj := by simpa using ej1
            have a2 : (sAt (i + 1)).rowD = ds := by simpa using ej2
            subst a1 a2
            exact ⟨us, by rw [upd_ne nqr, upd_same], tus.kt kt⟩
        · rcases hp with hp | hp
          · exact .inl (.inl hp)
          · rcases List.mem_append.mp hp with hp | hp
            · exact .inl (.inr hp)
            · rw [List.mem_singleton.mp hp]
              exact .inr nq
      have t16 := t15.kt (KT.trans (Same.kt (same_new nq)) (kt_upd (o := .lst (qs.map V.ref ++ [.ref q])) (lst_not ((same_new (o := .lst us) nq) _ _ hr1))))
      generalize upd (upd H15 q (.lst us)) r (.lst (qs.map V.ref ++ [.ref q])) = H16 at S16 t16 ⊢
      clear S15 t15 hr1 hr2 hr3 yd
      -- if spot == at: twin = cut.copy()
      refine ⟨_, rfl, _, rfl, rfl, _, rfl, ite_int (fun e => ?_) fun ne => ?_⟩
      · obtain ⟨vbe, ave, ye⟩ := MR.mx (S16.get (i := 2) rfl : MAt (CM K) H16 A2 b (sAt (i + 1)))
        refine ⟨_, rfl, _, _, _, rfl, ye.m, lk_copy, A2, b, _, rfl, S16.get (i := 2) rfl, hb, wfAt (i + 1), fun H17 A5 fr17 k17 m17 => ?_⟩
        refine ⟨A5, qs ++ [q], _, _, rfl, ?_, t16.kt (Same.kt k17)⟩
        rw [if_pos (by omega), show at_.toNat = i by omega]
        exact S16.tail.new (c := cM (CM K) A5 b (sAt (i + 1))) k17 m17 fr17
      · refine ⟨A4, qs ++ [q], _, _, rfl, ?_, t16⟩
        have e1 : (if at_ < ((i + 1 : Nat) : Int) then sAt (at_.toNat + 1) else s0) = (if at_ < (i : Int) then sAt (at_.toNat + 1) else s0) := by
          by_cases h1 : at_ < (i : Int)
          · rw [if_pos h1, if_pos (by omega)]
          · rw [if_neg h1, if_neg (by omega)]
        rw [e1]
        exact S16
    rintro σ H13 ⟨A4, qs, u1, u2, rfl, S13, t13⟩
    have e5 : (l.map V.int).length = 5 := by rw [List.length_map, ll]
    rw [e5, if_pos (show at_ < ((5 : Nat) : Int) by omega)] at S13
    clear S12 tb12
    obtain ⟨tw, htw⟩ : ∃ t : Nat, t = at_.toNat + 1 := ⟨_, rfl⟩
    have htw5 : tw ≤ 5 := by omega
    rw [← htw] at S13
    have eF : runN b l.sum.toNat (initS b num) = sAt 5 := by
      rw [hsAt, ← hs0e, ← hT5]
    have st5 := stAt 5
    have stT := stAt tw
    -- told(whole) != told(cut)
    refine ⟨_, rfl, A1, b, sAt 5, rfl, S13.get (i := 3) rfl, hb, wfAt 5, by omega, fun H14 k14 => ?_⟩
    have S14 := S13.same k14
    have t14 := t13.kt (Same.kt k14)
    clear S13 t13 k14
    refine ⟨_, rfl, A2, b, sAt 5, rfl, S14.get (i := 2) rfl, hb, wfAt 5, by omega, fun H15 k15 => ⟨rfl, _, rfl, ite_same ?_⟩⟩
    have S15 := S14.same k15
    have t15 := t14.kt (Same.kt k15)
    clear S14 t14 k15
    -- machine_row(..) != whole.row
    refine ⟨_, rfl, _, rfl, _, rfl, D, l, rfl, SqL.of (S15.get (i := 4) rfl), bv, _, b, num, rfl, t15, hb, hnum, .inl ⟨_, rfl, hsum0, by omega, fun H16 p16 us16 k16 hp16 tus16 => ?_⟩⟩
    rw [eF] at tus16
    have S16 := S15.same k16
    have t16 := t15.kt (Same.kt k16)
    clear S15 t15 k16
    obtain ⟨vb3, av3, y3⟩ := MR.mx (S16.get (i := 3) rfl : MAt (CM K) H16 A1 b (sAt 5))
    refine ⟨_, rfl, _, _, _, rfl, y3.m, A1, b, _, _, _, rfl, S16.get (i := 3) rfl, fun q17 us17 nq17 tus17 => ?_⟩
    have k17 := same_new (o := .lst us17) nq17
    refine ⟨.list (sAt 5).rowD, .list (sAt 5).rowD, .lst (SqL.of (k17 _ _ hp16)) (tus16.kt (Same.kt k17)).dp, .lst (SqL.of upd_same) (tus17.kt (Same.kt k17)).dp, shaped_rows (wfAt 5), shaped_rows (wfAt 5), _, rfl, ?_⟩
    rw [eqv_rows (wfAt 5)]
    refine iteF ?_
    have S17 := S16.same k17
    have t17 := t16.kt (Same.kt k17)
    generalize upd H16 q17 (.lst us17) = H17 at S17 t17 ⊢
    clear S16 t16 k17 tus16 tus17 hp16 nq17 y3
    -- every row of moments begins the next
    obtain ⟨hr1, hr2, hr4, hr3⟩ := (S17.get (i := 1) rfl : (cR r qs (rowsOf 5)).ok H17)
    have rows5 : (rowsOf 5).length = 5 := by
      rw [hrows]
      show ((List.range 5).map _).length = 5
      rw [List.length_map, List.length_range]
    have lq : qs.length = 5 := by rw [hr2, rows5]
    have rowsG : ∀ i, i < 5 → (rowsOf 5)[i]? = some (sAt (i + 1)).rowD := fun i hi => by
      rw [hrows]
      show ((List.range 5).map fun j => (sAt (j + 1)).rowD)[i]? = _
      rw [List.getElem?_map, List.getElem?_range hi]
      rfl
    have ec : cutV (qs.map V.ref) (some 1) none = (qs.drop 1).map V.ref := by
      show List.take ((qs.map V.ref).length - (if (1 : Int) < 0 then ((1 : Int) + ((qs.map V.ref).length : Int)).toNat else min (1 : Int).toNat (qs.map V.ref).length)) (List.drop (if (1 : Int) < 0 then ((1 : Int) + ((qs.map V.ref).length : Int)).toNat else min (1 : Int).toNat (qs.map V.ref).length) (qs.map V.ref)) = _
      rw [if_neg (by decide), List.length_map, lq]
      show List.take 4 (List.drop 1 (qs.map V.ref)) = _
      rw [← List.map_drop, List.take_of_length_le (by rw [List.length_map, List.length_drop, lq]; exact Nat.le_refl 4)]
    refine ⟨_, rfl, _, rfl, _, rfl, r, _, rfl, SqL.of hr1, fun z nz => ?_⟩
    rw [ec]
    have S18 : Sep (upd H17 z (.lst ((qs.drop 1).map V.ref))) [cO z (.lst ((qs.drop 1).map V.ref)), cM (CM K) A4 b (sAt tw), cR r qs (rowsOf 5), cM (CM K) A2 b (sAt 5), cM (CM K) A1 b (sAt 5), cO D (.lst (l.map V.int)), cS a gr c 4006, cO P0 (.tbl #[])] := S17.new (c := cO z (.lst ((qs.drop 1).map V.ref))) (same_new nz) upd_same (fun p hp => by rw [show p = z from hp]; exact nz)
    have t18 := t17.kt (Same.kt (same_new (o := .lst ((qs.drop 1).map V.ref)) nz))
    generalize upd H17 z (.lst ((qs.drop 1).map V.ref)) = H18 at S18 t18 ⊢
    clear S17 t17 hr1 hr2 hr3 nz
    refine ⟨r, z, _, _, rfl, SqL.of (S18.get (i := 2) rfl : (cR r qs (rowsOf 5)).ok H18).1, SqL.of (S18.get (i := 0) rfl : (cO z (.lst ((qs.drop 1).map V.ref))).ok H18), for_it (walk_zip (xs := qs.map V.ref) (ys := (qs.drop 1).map V.ref) (n := 4) (by rw [List.length_map, List.length_map, List.length_drop, lq]; rfl)) (fun i σ H' => ∃ (o1 o2 : Option V), σ = [some (.ref p0), some (.ref a), some (.int many), some bv, some (.int num), some (.ref D), some (.ref A1.m), some (.ref A2.m), some (.ref r), some (.int at_), some (.ref A4.m), u1, u2, o1, o2, none, none, none, none, none, none, none, none, none] ∧
        Sep H' [cO z (.lst ((qs.drop 1).map V.ref)), cM (CM K) A4 b (sAt tw), cR r qs (rowsOf 5), cM (CM K) A2 b (sAt 5), cM (CM K) A1 b (sAt 5), cO D (.lst (l.map V.int)), cS a gr c 4006, cO P0 (.tbl #[])] ∧ TD H' bv (bdD b)) ⟨none, none, rfl, S18, t18⟩ ?_ ?_ ?_⟩
    · rintro i σ H' _ ⟨o1, o2, rfl, S, t⟩
      exact ⟨SqL.of (S.get (i := 2) rfl : (cR r qs (rowsOf 5)).ok H').1, SqL.of (S.get (i := 0) rfl : (cO z (.lst ((qs.drop 1).map V.ref))).ok H')⟩
    · rintro i x σ H19 H20 hi ⟨v1, v2, rfl, S19, t19⟩ ⟨tt, x1, x2, rfl, ntt, rfl, ex, ey⟩
      have ex : (qs.map V.ref)[i]? = some x1 := ex
      have ey : ((qs.drop 1).map V.ref)[i]? = some x2 := ey
      rw [List.getElem?_map] at ex ey
      obtain ⟨qa, hqa, rfl⟩ := Option.map_eq_some_iff.mp ex
      obtain ⟨qb, hqb, rfl⟩ := Option.map_eq_some_iff.mp ey
      rw [List.getElem?_drop] at hqb
      have S20 := S19.same (same_new (o := .tup [.ref qa, .ref qb]) ntt)
      have t20 := t19.kt (Same.kt (same_new (o := .tup [.ref qa, .ref qb]) ntt))
      refine ⟨tt, _, rfl, SqT.of upd_same, rfl, _, _, rfl, _, _, rfl, rfl, ?_⟩
      generalize upd H19 tt (.tup [.ref qa, .ref qb]) = H20 at S20 t20 ⊢
      clear S19 t19
      obtain ⟨_, _, _, hr3⟩ := (S20.get (i := 2) rfl : (cR r qs (rowsOf 5)).ok H20)
      obtain ⟨ua, ha1, ha2⟩ := hr3 i qa _ hqa (rowsG i (by omega))
      obtain ⟨ub, hb1, hb2⟩ := hr3 (1 + i) qb _ hqb (rowsG (1 + i) (by omega))
      obtain ⟨zi, hzi⟩ : ∃ z, l[i + 1]? = some z := ⟨_, List.getElem?_eq_getElem (by omega)⟩
      obtain ⟨tl, htl⟩ := runN_row b zi.toNat (sAt (i + 1))
      rw [sAtS hzi] at htl
      have la : ua.length = (sAt (i + 1)).row.length := ha2.lenMap
      have lb : ub.length = (sAt (i + 1 + 1)).row.length := by
        have := hb2.lenMap
        rw [show 1 + i + 1 = i + 1 + 1 by omega] at this
        exact this
      have ecb : cutV ub none (some (ua.length : Int)) = ub.take ua.length := by
        show List.take ((if (ua.length : Int) < 0 then ((ua.length : Int) + (ub.length : Int)).toNat else min (ua.length : Int).toNat ub.length) - 0) (List.drop 0 ub) = _
        rw [if_neg (by omega), Int.toNat_natCast]
        show List.take (min ua.length ub.length) ub = _
        rw [Nat.min_eq_left]
        rw [la, lb, htl, List.length_append]
        exact Nat.le_add_right _ _
      have tka : TDs H20 (ub.take ua.length) (sAt (i + 1)).rowD := by
        have := hb2.take ua.length
        rw [show 1 + i + 1 = i + 1 + 1 by omega] at this
        have e : (sAt (i + 1 + 1)).rowD.take ua.length = (sAt (i + 1)).rowD := by
          show ((sAt (i + 1 + 1)).row.map crD).take ua.length = (sAt (i + 1)).row.map crD
          rw [htl, List.map_append, la]
          have : (sAt (i + 1)).row.length = ((sAt (i + 1)).row.map crD).length := (List.length_map ..).symm
          rw [this]
          exact List.take_left ..
        rw [e] at this
        exact this
      refine ⟨_, rfl, _, rfl, rd_lenL ha1 ⟨_, rfl, qb, ub, rfl, SqL.of hb1, fun w nw => ⟨_, rfl, ?_⟩⟩⟩
      rw [ecb]
      have kw := same_new (o := .lst (ub.take ua.length)) nw
      refine ⟨.list (sAt (i + 1)).rowD, .list (sAt (i + 1)).rowD, .lst (SqL.of upd_same) (tka.kt (Same.kt kw)).dp, .lst (SqL.of (kw _ _ ha1)) (ha2.kt (Same.kt kw)).dp, shaped_rows (wfAt _), shaped_rows (wfAt _), _, rfl, ?_⟩
      rw [eqv_rows (wfAt (i + 1))]
      exact iteF ⟨_, _, rfl, S20.same kw, t20.kt (Same.kt kw)⟩
    rintro σ H19 ⟨v1, v2, rfl, S19, t19⟩
    have S20 : Sep H19 [cM (CM K) A4 b (sAt tw), cM (CM K) A2 b (sAt 5), cO D (.lst (l.map V.int)), cS a gr c 4006, cO P0 (.tbl #[])] := ((S19.tail).drop 1).drop 2
    clear S18 t18 S19
    -- the last portions
    have ed : cutV (l.map V.int) (some (at_ + 1)) none = (l.drop tw).map V.int := by
      show List.take ((l.map V.int).length - (if at_ + 1 < 0 then (at_ + 1 + ((l.map V.int).length : Int)).toNat else min (at_ + 1).toNat (l.map V.int).length)) (List.drop (if at_ + 1 < 0 then (at_ + 1 + ((l.map V.int).length : Int)).toNat else min (at_ + 1).toNat (l.map V.int).length) (l.map V.int)) = _
      have e1 : (at_ + 1).toNat = tw := by omega
      rw [if_neg (by omega), e1, List.length_map, ll, Nat.min_eq_left htw5, List.map_drop, List.take_of_length_le]
      rw [List.length_drop, List.length_map, ll]
      exact Nat.le_refl _
    have hrest0 : 0 ≤ (l.drop tw).sum := sum_nonneg fun y hy => hs0 y (List.mem_of_mem_drop hy)
    have hrest : runN b (l.drop tw).sum.toNat (sAt tw) = sAt 5 := by
      rw [hsAt]
      show runN b (l.drop tw).sum.toNat (runN b (sumT l tw) s0) = runN b (sumT l 5) s0
      rw [← runN_add, sumT_rest hs0 tw, hT5]
    have hrest1 : (l.drop tw).sum ≤ 100 := by
      have h1 := sumT_rest hs0 tw
      omega
    have stF : (sAt 5).steps ≤ l.sum := by
      have h1 := (runN_steps b (sumT l 5) s0).2.1
      rw [hsAt]
      show (runN b (sumT l 5) s0).steps ≤ _
      omega
    have stR : (sAt 5).mode = .run → (sAt 5).steps = l.sum := fun hmd => by
      rw [hsAt] at hmd ⊢
      have h1 := ((runN_steps b (sumT l 5) s0).2.2 hmd).1
      show (runN b (sumT l 5) s0).steps = _
      omega
    have hunlike : (sAt 5).mode = .run → 0 < (l.drop tw).sum → (sAt tw).tell ≠ (sAt 5).tell := fun hmd hp => by
      have hmd' := hmd
      rw [← hrest] at hmd'
      obtain ⟨h1, h2⟩ := (runN_steps b (l.drop tw).sum.toNat (sAt tw)).2.2 hmd'
      rw [hrest] at h1
      exact told_ne (wfAt tw) (wfAt 5) h2 hmd (by omega)
    -- halted
    obtain ⟨vb4, av4, y4⟩ := MR.mx (S20.get (i := 1) rfl : MAt (CM K) H19 A2 b (sAt 5))
    refine ⟨_, rfl, _, _, _, rfl, y4.m, A2, b, _, _, _, rfl, S20.get (i := 1) rfl, rfl, ?_⟩
    rw [mode_ne]
    obtain ⟨halt, hhalt⟩ : ∃ h, h = !decide ((sAt 5).mode = .run) := ⟨_, rfl⟩
    rw [← hhalt]
    have hrunH : halt = false → (sAt 5).mode = .run := fun e => by
      rw [e] at hhalt
      by_cases z : (sAt 5).mode = .run
      · exact z
      · rw [decide_eq_false z] at hhalt
        cases hhalt
    dsimp only [gName]
    -- cut.steps
    refine seq_rest (A := tIfS _ _ _) (fun H2 => Sep H2 [cM (CM K) A4 b (sAt tw), cM (CM K) A2 b (sAt 5), cO D (.lst (l.map V.int)), cS a gr c 4006, cO P0 (.tbl #[])] ∧ TD H2 bv (bdD b)) ?_ fun rest => ?_
    case refine_2 =>
      refine ⟨_, rfl, _, _, _, rfl, y4.m, A2, b, _, _, _, rfl, S20.get (i := 1) rfl, _, rfl, D, l, rfl, SqL.of (S20.get (i := 2) rfl), _, _, rfl, rfl, _, rfl, ite_dec (fun z => by omega) fun _ => ⟨_, rfl, halt, rfl, ?_⟩⟩
      cases halt with
      | true => exact iteF (rest _ ⟨S20, t19⟩)
      | false =>
        refine iteT ⟨_, rfl, _, _, _, rfl, y4.m, A2, b, _, _, _, rfl, S20.get (i := 1) rfl, _, rfl, D, l, rfl, SqL.of (S20.get (i := 2) rfl), rfl, _, rfl, ite_intN (fun z => absurd (stR (hrunH rfl)) z) fun _ => rest _ ⟨S20, t19⟩⟩
    clear S20 t19 y4
    rintro H20 ⟨S20, t20⟩
    -- told(twin) == told(cut) and ..
    refine seq_rest (A := tIfS _ _ _) (fun H2 => Sep H2 [cM (CM K) A4 b (sAt tw), cM (CM K) A2 b (sAt 5), cO D (.lst (l.map V.int)), cS a gr c 4006, cO P0 (.tbl #[])] ∧ TD H2 bv (bdD b)) ?_ fun rest => ?_
    case refine_2 =>
      refine ⟨_, rfl, A4, b, sAt tw, rfl, S20.get (i := 0) rfl, hb, wfAt tw, by omega, fun H21 k21 => ?_⟩
      have S21 := S20.same k21
      have t21 := t20.kt (Same.kt k21)
      refine ⟨_, rfl, A2, b, sAt 5, rfl, S21.get (i := 1) rfl, hb, wfAt 5, by omega, fun H22 k22 => ⟨rfl, _, rfl, ?_⟩⟩
      have S22 := S21.same k22
      have t22 := t21.kt (Same.kt k22)
      by_cases eqt : (sAt tw).tell = (sAt 5).tell
      case neg =>
        rw [decide_eq_false (fun z => eqt (V.str.inj z))]
        exact iteF (rest _ ⟨S22, t22⟩)
      rw [decide_eq_true (by rw [eqt])]
      refine iteT ⟨_, rfl, _, rfl, _, _, rfl, rfl, _, rfl, D, _, rfl, SqL.of (S22.get (i := 2) rfl), fun w nw => ?_⟩
      rw [ed]
      have S23 := S22.same (same_new (o := .lst ((l.drop tw).map V.int)) nw)
      have t23 := t22.kt (Same.kt (same_new (o := .lst ((l.drop tw).map V.int)) nw))
      refine ⟨w, l.drop tw, rfl, SqL.of upd_same, _, _, rfl, rfl, _, rfl, ite_dec (fun hp => ⟨_, rfl, halt, rfl, ?_⟩) fun _ => rest _ ⟨S23, t23⟩⟩
      cases halt with
      | true => exact iteF (rest _ ⟨S23, t23⟩)
      | false => exact absurd eqt (hunlike (hrunH rfl) hp)
    clear S20 t20
    rintro H21 ⟨S21, t21⟩
    -- free, kept
    obtain ⟨vb5, av5, y5⟩ := MR.mx (S21.get (i := 0) rfl : MAt (CM K) H21 A4 b (sAt tw))
    refine ⟨_, rfl, _, _, _, rfl, y5.m, lk_copy, A4, b, sAt tw, rfl, S21.get (i := 0) rfl, hb, wfAt tw, fun H22 A5 fr22 k22 m22 => ?_⟩
    have S22 : Sep H22 [cM (CM K) A5 b (sAt tw), cM (CM K) A4 b (sAt tw), cM (CM K) A2 b (sAt 5), cO D (.lst (l.map V.int)), cS a gr c 4006, cO P0 (.tbl #[])] := S21.new (c := cM (CM K) A5 b (sAt tw)) k22 m22 fr22
    have t22 := t21.kt (Same.kt k22)
    clear S21 t21 k22 m22 fr22 y5
    refine ⟨_, rfl, A4, b, sAt tw, rfl, S22.get (i := 1) rfl, hb, wfAt tw, by omega, fun H23 k23 => ⟨_, _, rfl, ?_⟩⟩
    have S23 := S22.same k23
    have t23 := t22.kt (Same.kt k23)
    clear S22 t22 k23
    -- room
    refine ⟨_, rfl, _, rfl, a, gr, c, _, many, rfl, S23.get (i := 4) rfl, by omega, by omega, by omega, fun H24 room rm0 rm1 L24 o24 => ?_⟩
    have S24 : Sep H24 [cM (CM K) A5 b (sAt tw), cM (CM K) A4 b (sAt tw), cM (CM K) A2 b (sAt 5), cO D (.lst (l.map V.int)), cS a gr c (4006 + 1), cO P0 (.tbl #[])] := S23.upd (i := 4) (c' := cS a gr c (4006 + 1)) rfl o24 L24 fun p hp => .inl hp
    have t24 := t23.kt o24.kt
    clear S23 t23 o24 L24
    -- free.put(..)
    have hcl : ((sAt tw).cells.length : Int) = many := by rw [(wfAt tw).cl]; exact hbl
    have hrl : room.toNat < (sAt tw).cells.length := by omega
    have hcm : (sAt tw).cells.getD room.toNat [] ∈ (sAt tw).cells := by
      rw [List.getD_eq_getElem?_getD, List.getElem?_eq_getElem hrl]
      exact List.getElem_mem hrl
    obtain ⟨hc1, hc2, hc3⟩ := (wfAt tw).cs _ hcm
    obtain ⟨vb6, av6, y6⟩ := MR.mx (S24.get (i := 0) rfl : MAt (CM K) H24 A5 b (sAt tw))
    refine ⟨_, rfl, _, _, _, rfl, y6.m, lk_put, _, rfl, _, rfl, _, rfl, _, _, _, rfl, y6.m, lk_cellsM, _, rfl, A5, b, _, _, _, room, rfl, S24.get (i := 0) rfl, rm0, by omega, fun p25 np25 => rd_lenT upd_same ?_⟩
    have S25 := S24.same (same_new (o := .tup (((sAt tw).cells.getD room.toNat []).map V.int)) np25)
    have t25 := t24.kt (Same.kt (same_new (o := .tup (((sAt tw).cells.getD room.toNat []).map V.int)) np25))
    generalize upd H24 p25 (.tup (((sAt tw).cells.getD room.toNat []).map V.int)) = H25 at S25 t25 ⊢
    clear S24 t24 np25 y6
    have elen : ((((sAt tw).cells.getD room.toNat []).map V.int).length : Int) = ((sAt tw).cells.getD room.toNat []).length := by rw [List.length_map]
    refine ⟨a, gr, c, _, _, rfl, S25.get (i := 4) rfl, by omega, by rw [elen]; omega, by rw [elen]; omega, fun H26 pl pl0 pl1 L26 o26 => ⟨_, rfl, a, gr, c, _, rfl, L26, by omega, fun H27 nw nwn L27 o27 => ?_⟩⟩
    rw [elen] at pl1
    have S26 : Sep H26 [cM (CM K) A5 b (sAt tw), cM (CM K) A4 b (sAt tw), cM (CM K) A2 b (sAt 5), cO D (.lst (l.map V.int)), cS a gr c (4006 + 1 + 1), cO P0 (.tbl #[])] := S25.upd (i := 4) (c' := cS a gr c (4006 + 1 + 1)) rfl o26 L26 fun p hp => .inl hp
    have S27 : Sep H27 [cM (CM K) A5 b (sAt tw), cM (CM K) A4 b (sAt tw), cM (CM K) A2 b (sAt 5), cO D (.lst (l.map V.int)), cS a gr c (4006 + 1 + 1 + 2), cO P0 (.tbl #[])] := S26.upd (i := 4) (c' := cS a gr c (4006 + 1 + 1 + 2)) rfl o27 L27 fun p hp => .inl hp
    have t27 := (t25.kt o26.kt).kt o27.kt
    clear S25 S26 t25 o26 o27 L26 L27
    refine ⟨A5, b, _, _, _, room, pl, nw, rfl, S27.get (i := 0) rfl, rm0, by omega, pl0, pl1, nwn, fun H28 o28 m28 => ?_⟩
    obtain ⟨sf, hsf⟩ : ∃ s, s = { sAt tw with cells := (sAt tw).cells.set room.toNat (((sAt tw).cells.getD room.toNat []).set pl.toNat nw) } := ⟨_, rfl⟩
    have wff : WfM b sf := by
      rw [hsf]
      exact wf_cells (wfAt tw) hrl nwn
    have stf : sf.steps ≤ 100 := by
      rw [hsf]
      exact stT
    have m28 : MAt (CM K) H28 A5 b sf := by
      rw [hsf]
      exact m28
    have S28 : Sep H28 [cM (CM K) A5 b sf, cM (CM K) A4 b (sAt tw), cM (CM K) A2 b (sAt 5), cO D (.lst (l.map V.int)), cS a gr c (4006 + 1 + 1 + 2), cO P0 (.tbl #[])] := S27.upd (i := 0) (c' := cM (CM K) A5 b sf) rfl o28 m28 fun p hp => .inl hp
    have t28 := t27.kt o28.kt
    clear S27 t27 o28 m28
    -- free.go(9)
    obtain ⟨vb7, av7, y7⟩ := MR.mx (S28.get (i := 0) rfl : MAt (CM K) H28 A5 b sf)
    refine ⟨_, rfl, _, _, _, rfl, y7.m, lk_go, A5, b, sf, _, rfl, S28.get (i := 0) rfl, hb, wff, by omega, .inl ⟨9, rfl, by decide, by decide, fun H29 o29 m29 => ?_⟩⟩
    have S29 : Sep H29 [cM (CM K) A4 b (sAt tw), cM (CM K) A2 b (sAt 5), cO D (.lst (l.map V.int)), cS a gr c (4006 + 1 + 1 + 2), cO P0 (.tbl #[])] := (S28.upd (i := 0) (c' := cM (CM K) A5 b (runN b (9 : Int).toNat sf)) rfl o29 m29 fun p hp => .inl hp).tail
    have t29 := t28.kt o29.kt
    clear S28 t28 o29 m29 y7
    -- told(twin) != kept
    refine ⟨_, rfl, A4, b, sAt tw, rfl, S29.get (i := 0) rfl, hb, wfAt tw, by omega, fun H30 k30 => ⟨_, rfl, rfl, _, rfl, ite_same ?_⟩⟩
    have S30 := S29.same k30
    have t30 := t29.kt (Same.kt k30)
    clear S29 t29 k30
    -- twin.go(..)
    obtain ⟨vb8, av8, y8⟩ := MR.mx (S30.get (i := 0) rfl : MAt (CM K) H30 A4 b (sAt tw))
    refine ⟨_, rfl, _, _, _, rfl, y8.m, lk_go, _, rfl, _, rfl, _, _, rfl, rfl, _, rfl, D, _, rfl, SqL.of (S30.get (i := 2) rfl), fun w31 nw31 => ?_⟩
    rw [ed]
    have S31 := S30.same (same_new (o := .lst ((l.drop tw).map V.int)) nw31)
    have t31 := t30.kt (Same.kt (same_new (o := .lst ((l.drop tw).map V.int)) nw31))
    refine ⟨w31, l.drop tw, rfl, SqL.of upd_same, A4, b, sAt tw, _, rfl, S31.get (i := 0) rfl, hb, wfAt tw, by omega, .inl ⟨_, rfl, hrest0, by omega, fun H32 o32 m32 => ?_⟩⟩
    rw [hrest] at m32
    have S32 : Sep H32 [cM (CM K) A4 b (sAt 5), cM (CM K) A2 b (sAt 5), cO D (.lst (l.map V.int)), cS a gr c (4006 + 1 + 1 + 2), cO P0 (.tbl #[])] := S31.upd (i := 0) (c' := cM (CM K) A4 b (sAt 5)) rfl o32 m32 fun p hp => .inl hp
    have t32 := t31.kt o32.kt
    clear S30 S31 t30 t31 o32 m32 y8 nw31
    -- told(twin) != told(cut)
    refine ⟨_, rfl, A4, b, sAt 5, rfl, S32.get (i := 0) rfl, hb, wfAt 5, by omega, fun H33 k33 => ?_⟩
    have S33 := S32.same k33
    have t33 := t32.kt (Same.kt k33)
    refine ⟨_, rfl, A2, b, sAt 5, rfl, S33.get (i := 1) rfl, hb, wfAt 5, by omega, fun H34 k34 => ⟨rfl, _, rfl, ite_same ?_⟩⟩
    have S34 : Sep H34 [cM (CM K) A2 b (sAt 5), cO P0 (.tbl #[])] := (((S33.same k34).tail).drop 1).drop 1
    have t34 := t33.kt (Same.kt k34)
    clear S32 S33 t32 t33 k33 k34
    -- after
    obtain ⟨vb9, av9, y9⟩ := MR.mx (S34.get (i := 0) rfl : MAt (CM K) H34 A2 b (sAt 5))
    refine ⟨_, rfl, _, _, _, rfl, y9.m, lk_copy, A2, b, sAt 5, rfl, S34.get (i := 0) rfl, hb, wfAt 5, fun H35 A6 fr35 k35 m35 => ?_⟩
    have S35 : Sep H35 [cM (CM K) A6 b (sAt 5), cM (CM K) A2 b (sAt 5), cO P0 (.tbl #[])] := S34.new (c := cM (CM K) A6 b (sAt 5)) k35 m35 fr35
    have t35 := t34.kt (Same.kt k35)
    clear S34 t34 k35 m35 fr35 y9
    -- row, ahead
    obtain ⟨vba, ava, ya⟩ := MR.mx (S35.get (i := 0) rfl : MAt (CM K) H35 A6 b (sAt 5))
    refine ⟨_, rfl, _, _, _, rfl, ya.m, A6, b, _, _, _, rfl, S35.get (i := 0) rfl, fun p36 us36 np36 tus36 => ?_⟩
    have k36 := same_new (o := .lst us36) np36
    have S36 : Sep (upd H35 p36 (.lst us36)) [cO p36 (.lst us36), cM (CM K) A6 b (sAt 5), cM (CM K) A2 b (sAt 5), cO P0 (.tbl #[])] := S35.new (c := cO p36 (.lst us36)) k36 upd_same (fun p hp => by rw [show p = p36 from hp]; exact np36)
    have t36 := t35.kt (Same.kt k36)
    have l36 : us36.length = (sAt 5).row.length := tus36.lenMap
    generalize upd H35 p36 (.lst us36) = H36 at S36 t36 ⊢
    clear S35 t35 k36 tus36 np36 ya
    obtain ⟨vba, ava, ya⟩ := MR.mx (S36.get (i := 1) rfl : MAt (CM K) H36 A6 b (sAt 5))
    refine ⟨_, rfl, _, _, _, rfl, ya.m, A6, b, _, _, _, rfl, S36.get (i := 1) rfl, fun p37 us37 np37 tus37 => rd_lenL upd_same ⟨_, _, rfl, ?_⟩⟩
    have S37 := S36.same (same_new (o := .lst us37) np37)
    have t37 := t36.kt (Same.kt (same_new (o := .lst us37) np37))
    have l37 : us37.length = (sAt 5).row.length := tus37.lenMap
    generalize upd H36 p37 (.lst us37) = H37 at S37 t37 ⊢
    clear S36 t36 tus37 np37 ya
    have hrow5 : (sAt 5).row.length ≤ 1000 := by
      have := (wfAt 5).rowl
      omega
    -- row.append(None)
    refine ⟨_, rfl, .inl ⟨rfl, _, SqL.of (S37.get (i := 0) rfl : (cO p36 (.lst us36)).ok H37)⟩, _, _, _, rfl, rfl, S37.get (i := 0) rfl, by show us36.length < 16777216; omega, ?_⟩
    have S38 : Sep (upd H37 p36 (.lst (us36 ++ [.non]))) [cM (CM K) A6 b (sAt 5), cM (CM K) A2 b (sAt 5), cO P0 (.tbl #[])] := (S37.upd (i := 0) (c' := cO p36 (.lst (us36 ++ [.non]))) rfl (Off.upd rfl (lst_not (S37.get (i := 0) rfl : (cO p36 (.lst us36)).ok H37))) upd_same fun p hp => .inl hp).tail
    have t38 := t37.kt (kt_upd (o := .lst (us36 ++ [.non])) (lst_not (S37.get (i := 0) rfl : (cO p36 (.lst us36)).ok H37)))
    generalize upd H37 p36 (.lst (us36 ++ [.non])) = H38 at S38 t38 ⊢
    clear S37 t37
    -- after.open_asks.append(None)
    obtain ⟨vba, ava, ya⟩ := MR.mx (S38.get (i := 0) rfl : MAt (CM K) H38 A6 b (sAt 5))
    refine ⟨_, rfl, _, _, _, rfl, ya.m, A6, b, _, _, _, rfl, S38.get (i := 0) rfl, fun p39 us39 np39 tus39 => ⟨.inl ⟨rfl, _, SqL.of upd_same⟩, _, _, _, rfl, rfl, upd_same, ?_, ?_⟩⟩
    · have h1 : us39.length = (sAt 5).asks.length := tus39.lenMap
      have h2 := (wfAt 5).askl
      show us39.length < 16777216
      omega
    have k39 : Same H38 (upd (upd H38 p39 (.lst us39)) p39 (.lst (us39 ++ [.non]))) := fun c o e => by
      rw [upd_ne (ne_of_none e np39), upd_ne (ne_of_none e np39)]
      exact e
    have S39 := S38.same k39
    have t39 := t38.kt (Same.kt k39)
    generalize upd (upd H38 p39 (.lst us39)) p39 (.lst (us39 ++ [.non])) = H39 at S39 t39 ⊢
    clear S38 t38 k39 tus39 np39 ya
    -- after.go(15), cut.go(15)
    obtain ⟨vba, ava, ya⟩ := MR.mx (S39.get (i := 0) rfl : MAt (CM K) H39 A6 b (sAt 5))
    refine ⟨_, rfl, _, _, _, rfl, ya.m, lk_go, A6, b, sAt 5, _, rfl, S39.get (i := 0) rfl, hb, wfAt 5, by omega, .inl ⟨15, rfl, by decide, by decide, fun H40 o40 m40 => ?_⟩⟩
    obtain ⟨s6, hs6⟩ : ∃ s, s = runN b (15 : Int).toNat (sAt 5) := ⟨_, rfl⟩
    have wf6 : WfM b s6 := by
      rw [hs6]
      exact run_wf hb _ _ (wfAt 5)
    have st6 : s6.steps ≤ 1000 := by
      have := (runN_steps b (15 : Int).toNat (sAt 5)).2.1
      rw [← hs6] at this
      have e15 : (((15 : Int).toNat : Nat) : Int) = 15 := rfl
      omega
    rw [← hs6] at m40
    have S40 : Sep H40 [cM (CM K) A6 b s6, cM (CM K) A2 b (sAt 5), cO P0 (.tbl #[])] := S39.upd (i := 0) (c' := cM (CM K) A6 b s6) rfl o40 m40 fun p hp => .inl hp
    have t40 := t39.kt o40.kt
    clear S39 t39 o40 m40 ya
    obtain ⟨vba, ava, ya⟩ := MR.mx (S40.get (i := 1) rfl : MAt (CM K) H40 A2 b (sAt 5))
    refine ⟨_, rfl, _, _, _, rfl, ya.m, lk_go, A2, b, sAt 5, _, rfl, S40.get (i := 1) rfl, hb, wfAt 5, by omega, .inl ⟨15, rfl, by decide, by decide, fun H41 o41 m41 => ?_⟩⟩
    rw [← hs6] at m41
    have S41 : Sep H41 [cM (CM K) A6 b s6, cM (CM K) A2 b s6, cO P0 (.tbl #[])] := S40.upd (i := 1) (c' := cM (CM K) A2 b s6) rfl o41 m41 fun p hp => .inl hp
    have t41 := t40.kt o41.kt
    clear S40 t40 o41 m41 ya
    -- after.row[ahead:] != cut.row[ahead:]
    obtain ⟨vba, ava, ya⟩ := MR.mx (S41.get (i := 0) rfl : MAt (CM K) H41 A6 b s6)
    refine ⟨_, rfl, _, _, _, rfl, ya.m, A6, b, _, _, _, rfl, S41.get (i := 0) rfl, fun p42 us42 np42 tus42 => ?_⟩
    have S42 := S41.same (same_new (o := .lst us42) np42)
    have t42 := t41.kt (Same.kt (same_new (o := .lst us42) np42))
    have u42 := tus42.kt (Same.kt (same_new (o := .lst us42) np42))
    have h42 : (upd H41 p42 (.lst us42)) p42 = some (.lst us42) := upd_same
    have l42 : us42.length = s6.row.length := tus42.lenMap
    generalize upd H41 p42 (.lst us42) = H42 at S42 t42 u42 h42 ⊢
    clear S41 t41 tus42 np42 ya
    refine ⟨_, rfl, _, rfl, p42, us42, rfl, SqL.of h42, fun w43 nw43 => ?_⟩
    rw [cutV_from us42 (by omega)]
    obtain ⟨kd, hkd⟩ : ∃ k, k = min ((us37.length : Nat) : Int).toNat us42.length := ⟨_, rfl⟩
    rw [← hkd]
    have S43 := S42.same (same_new (o := .lst (us42.drop kd)) nw43)
    have t43 := t42.kt (Same.kt (same_new (o := .lst (us42.drop kd)) nw43))
    have u43 := (u42.drop kd).kt (Same.kt (same_new (o := .lst (us42.drop kd)) nw43))
    have h43 : (upd H42 w43 (.lst (us42.drop kd))) w43 = some (.lst (us42.drop kd)) := upd_same
    generalize upd H42 w43 (.lst (us42.drop kd)) = H43 at S43 t43 u43 h43 ⊢
    clear S42 t42 u42 h42 nw43
    obtain ⟨vba, ava, ya⟩ := MR.mx (S43.get (i := 1) rfl : MAt (CM K) H43 A2 b s6)
    refine ⟨_, rfl, _, _, _, rfl, ya.m, A2, b, _, _, _, rfl, S43.get (i := 1) rfl, fun p44 us44 np44 tus44 => ?_⟩
    have k44 := same_new (o := .lst us44) np44
    have l44 : us44.length = s6.row.length := tus44.lenMap
    have u44 := tus44.kt (Same.kt k44)
    refine ⟨_, rfl, _, rfl, p44, us44, rfl, SqL.of upd_same, fun w45 nw45 => ?_⟩
    rw [cutV_from us44 (by omega), show min ((us37.length : Nat) : Int).toNat us44.length = kd by rw [hkd, l42, l44]]
    have k45 := sm_tr k44 (same_new (o := .lst (us44.drop kd)) nw45)
    refine ⟨.list (s6.rowD.drop kd), .list (s6.rowD.drop kd), .lst (SqL.of (k45 _ _ h43)) (u43.kt (Same.kt k45)).dp, .lst (SqL.of upd_same) ((u44.drop kd).kt (Same.kt (same_new nw45))).dp, shaped_of (drop_plain wf6 kd) (drop_depth s6 kd), shaped_of (drop_plain wf6 kd) (drop_depth s6 kd), _, rfl, ?_⟩
    rw [eqv_self (drop_plain wf6 kd)]
    refine iteF ?_
    have S45 := S43.same k45
    have t45 := t43.kt (Same.kt k45)
    generalize upd (upd H43 p44 (.lst us44)) w45 (.lst (us44.drop kd)) = H45 at S45 t45 ⊢
    clear S43 t43 k44 k45 u43 u44 h43 nw45 np44 tus44 ya
    -- after.moment() != cut.moment()
    obtain ⟨vba, ava, ya⟩ := MR.mx (S45.get (i := 0) rfl : MAt (CM K) H45 A6 b s6)
    refine ⟨_, rfl, _, _, _, rfl, ya.m, lk_moment, A6, b, s6, rfl, S45.get (i := 0) rfl, wf6, hb, fun H46 v46 k46 d46 => ?_⟩
    have S46 := S45.same k46
    have t46 := t45.kt (Same.kt k46)
    clear S45 t45 k46 ya
    obtain ⟨vba, ava, ya⟩ := MR.mx (S46.get (i := 1) rfl : MAt (CM K) H46 A2 b s6)
    refine ⟨_, rfl, _, _, _, rfl, ya.m, lk_moment, A2, b, s6, rfl, S46.get (i := 1) rfl, wf6, hb, fun H47 v47 k47 d47 => ?_⟩
    have S47 := S46.same k47
    have t47 := t46.kt (Same.kt k47)
    have smom : SeqAt.shaped s6.momD = true := shaped_of (mom_plain hb wf6) (Nat.le_trans mom_depth (by decide))
    refine ⟨s6.momD, s6.momD, (sm_td k47 d46).dp, d47.dp, smom, smom, _, rfl, ?_⟩
    rw [eqv_self (mom_plain hb wf6)]
    refine iteF ?_
    clear S46 t46 k47 d46 d47 ya
    -- None in after.row + after.open_asks
    obtain ⟨vba, ava, ya⟩ := MR.mx (S47.get (i := 0) rfl : MAt (CM K) H47 A6 b s6)
    refine ⟨_, rfl, _, _, _, rfl, ya.m, A6, b, _, _, _, rfl, S47.get (i := 0) rfl, fun p48 us48 np48 tus48 => ?_⟩
    have k48 := same_new (o := .lst us48) np48
    have S48 := S47.same k48
    have t48 := t47.kt (Same.kt k48)
    have u48 := tus48.kt (Same.kt k48)
    have h48 : (upd H47 p48 (.lst us48)) p48 = some (.lst us48) := upd_same
    generalize upd H47 p48 (.lst us48) = H48 at S48 t48 u48 h48 k48 ⊢
    clear S47 t47 k48 tus48 np48 ya
    obtain ⟨vba, ava, ya⟩ := MR.mx (S48.get (i := 0) rfl : MAt (CM K) H48 A6 b s6)
    refine ⟨_, rfl, _, _, _, rfl, ya.m, A6, b, _, _, _, rfl, S48.get (i := 0) rfl, fun p49 us49 np49 tus49 => ?_⟩
    have k49 := same_new (o := .lst us49) np49
    have u49 := tus49.kt (Same.kt k49)
    refine ⟨_, _, _, _, rfl, rfl, k49 _ _ h48, upd_same, ?_, fun w50 nw50 => ?_⟩
    · have h1 : us48.length = s6.row.length := u48.lenMap
      have h2 : us49.length = s6.asks.length := tus49.lenMap
      have h3 := wf6.rowl
      have h4 := wf6.askl
      show us48.length + us49.length ≤ 16777216
      omega
    have k50 := sm_tr k49 (same_new (o := .lst (us48 ++ us49)) nw50)
    obtain ⟨zn1, zn2⟩ := no_none hb wf6
    refine ⟨.none, s6.rowD ++ s6.asksD, .non, .lst (SqL.of upd_same) (((u48.kt (Same.kt k49)).app u49).kt (Same.kt (same_new nw50))).dp, by rfl, zn1, _, rfl, ?_⟩
    rw [zn2]
    refine iteF ?_
    have S50 := S48.same k50
    have t50 := t48.kt (Same.kt k50)
    generalize upd (upd H48 p49 (.lst us49)) w50 (.lst (us48 ++ us49)) = H50 at S50 t50 ⊢
    clear S48 t48 k49 k50 u48 u49 h48 nw50 np49 tus49 ya
    -- what is no count of steps
    refine ⟨_, rfl, _, _, rfl, rfl, ⟨by decide, by decide, by decide⟩, _, _, rfl, rfl, Nat.le_of_ble_eq_true rfl, fun pb npb => ?_⟩
    have S51 := S50.same (same_new (o := .lst [.non, .int (-1), .bl true, .str "5", .int ((10 : Int) ^ (6 : Int).toNat + 1)]) npb)
    have t51 := t50.kt (Same.kt (same_new (o := .lst [.non, .int (-1), .bl true, .str "5", .int ((10 : Int) ^ (6 : Int).toNat + 1)]) npb))
    have h51 : (upd H50 pb (.lst [.non, .int (-1), .bl true, .str "5", .int ((10 : Int) ^ (6 : Int).toNat + 1)])) pb = some (.lst [.non, .int (-1), .bl true, .str "5", .int ((10 : Int) ^ (6 : Int).toNat + 1)]) := upd_same
    generalize upd H50 pb (.lst [.non, .int (-1), .bl true, .str "5", .int ((10 : Int) ^ (6 : Int).toNat + 1)]) = H51 at S51 t51 h51 ⊢
    clear S50 t50 npb
    have bads : ∀ v ∈ [V.non, .int (-1), .bl true, .str "5", .int ((10 : Int) ^ (6 : Int).toNat + 1)], badV v := by
      intro v hv
      rcases List.mem_cons.mp hv with e | hv
      · rw [e]
        exact .inl rfl
      · rcases List.mem_cons.mp hv with e | hv
        · rw [e]
          exact .inr ⟨-1, rfl, by omega⟩
        · rcases List.mem_cons.mp hv with e | hv
          · rw [e]
            exact .inl rfl
          · rcases List.mem_cons.mp hv with e | hv
            · rw [e]
              exact .inl rfl
            · rw [List.mem_singleton.mp hv]
              exact .inr ⟨_, rfl, by decide⟩
    have T51 : LamX.Tabs [(P0, lamQ)] H51 := fun p hp => by
      rw [List.mem_singleton.mp hp]
      exact LamX.TabS.nil (S51.get (i := 2) rfl : (cO P0 (.tbl #[])).ok H51)
    refine ⟨pb, rfl, ⟨_, SqL.of h51⟩, for_it (walk_list (xs := [V.non, .int (-1), .bl true, .str "5", .int ((10 : Int) ^ (6 : Int).toNat + 1)])) (fun i σ H' => ∃ o22 : Option V, σ = [some (.ref p0), some (.ref a), some (.int many), some bv, some (.int num), some (.ref D), some (.ref A1.m), some (.ref A2.m), some (.ref r), some (.int at_), some (.ref A4.m), u1, u2, v1, v2, some (.bl halt), some (.ref A5.m), some (.str (sAt tw).tell), some (.int room), some (.ref A6.m), some (.ref p36), some (.int (us37.length : Int)), o22, none] ∧
        LamX.Tabs [(P0, lamQ)] H' ∧ MAt (CM K) H' A2 b s6 ∧ TD H' bv (bdD b) ∧ H' pb = some (.lst [V.non, .int (-1), .bl true, .str "5", .int ((10 : Int) ^ (6 : Int).toNat + 1)])) ⟨none, rfl, T51, S51.get (i := 1) rfl, t51, h51⟩ ?_ ?_ ?_⟩
    · rintro i σ H' _ ⟨o22, rfl, _, _, _, h⟩
      exact SqL.of h
    · rintro i x σ H52 H53 hi ⟨o22, rfl, T52, m52, t52, h52⟩ ⟨rfl, hx⟩
      have hbad := bads x (List.mem_of_getElem? hx)
      clear S51 t51 T51 h51
      refine ⟨T52, fun H54 e54 T54 Qn => ?_⟩
      have m54 := m52.ext e54
      have t54 := t52.kt (offExt e54).kt
      have h54 : H54 pb = some (.lst [V.non, .int (-1), .bl true, .str "5", .int ((10 : Int) ^ (6 : Int).toNat + 1)]) := e54 _ _ h52 fun ps z => by cases z
      obtain ⟨vba, ava, ya⟩ := MR.mx m54
      refine ⟨_, rfl, _, _, _, rfl, ya.m, lk_go, _, rfl, A2, b, s6, x, rfl, m54, hb, wf6, by omega, .inr ⟨hbad, T.exm, fun er ner => ?_⟩⟩
      refine ⟨er, .ref (ga K "BadSteps"), .ref (ga K "BadSteps"), true, rfl, upd_same, fun u h => h, kit_self K _, _, rfl, iteF ?_⟩
      have k55 := same_new (o := ErrV (.ref (ga K "BadSteps")) none er) ner
      have T55 := T54.ext k55
      have m55 : MAt (CM K) _ A2 b s6 := MR.same m54 k55
      have t55 := t54.kt (Same.kt k55)
      have h55 := k55 _ _ h54
      generalize upd H54 er (ErrV (.ref (ga K "BadSteps")) none er) = H55 at k55 T55 m55 t55 h55 ⊢
      refine ⟨T55, fun H56 e56 T56 Qn2 => ?_⟩
      have m56 := m55.ext e56
      have t56 := t55.kt (offExt e56).kt
      have h56 : H56 pb = some (.lst [V.non, .int (-1), .bl true, .str "5", .int ((10 : Int) ^ (6 : Int).toNat + 1)]) := e56 _ _ h55 fun ps z => by cases z
      refine ⟨_, rfl, _, rfl, _, rfl, bv, x, b, num, rfl, t56, hb, hnum, .inr ⟨hbad, fun H57 k57 => ⟨T.exm, fun er2 ner2 => ?_⟩⟩⟩
      refine ⟨er2, .ref (ga K "BadSteps"), .ref (ga K "BadSteps"), true, rfl, upd_same, fun u h => h, kit_self K _, _, rfl, iteF ?_⟩
      have k58 := sm_tr k57 (same_new (o := ErrV (.ref (ga K "BadSteps")) none er2) ner2)
      exact ⟨_, rfl, T56.ext k58, MR.same m56 k58, t56.kt (Same.kt k58), k58 _ _ h56⟩
    · rintro σ H52 ⟨o22, rfl, _⟩
      exact q _
end K25
set_option maxHeartbeats 0
/-! the head: the kernel runs the top once -/
namespace K25
open PySem PySem.Spec PyProof.Rows L2 He
abbrev R : PySem.W.OpenRow := PySem.W.OpenLaw.row PySem.Challenge.rw_ownharm_k25_whole_runs_cut_anywhere
def qv : Program := PySem.W.view R.prog [52]
def names : List PySem.Str := (["OwnharmError", "BadRoomNumber", "BadNumber", "BadSteps", "BadBoard", "BadAddress", "MOST_NUMBER", "MOST_DEPTH", "MOST_ROOMS", "MOST_IMPORTS", "MOST_DOORS", "is_whole", "is_number", "are_unlike", "MOST_CELLS", "are_numbers", "is_section", "are_board_wires", "is_board", "need_board", "need_number", "need_room_number"] : List PySem.Str) ++
  (["MOST_STEPS", "ENDS", "CROSSES", "need_step_count", "sum_step", "cell_step", "inner_step", "Machine", "machine_row", "_law_begun", "_law_mixed", "_law_draw", "_law_pick", "_law_shuffled", "_law_small", "_law_caught", "_law_set", "_law_piece", "_law_section", "_law_noise", "_law_wired", "_law_counting_piece", "_law_counting", "_law_board", "_law_told"] : List PySem.Str)
abbrev hk : PySem.W.Hook := hookP 6 faL fnL tfL exL gsL
def ob (s : PySem.W.SharedT) : AlP := obsP 6 faL fnL tfL exL gsL (HandSHeadRun.getT s)
theorem ob_eq (s : PySem.W.SharedT) : ob s = hk.obs s.abs := obsP_eq (HandSHeadRun.getT_eq s)
theorem run (w : World) : HandSHeadRun.RunEq R qv hk ob 4000 names w := by
  intro os
  kernel_rfl
end K25
set_option maxHeartbeats 0
/-! the end -/
namespace K25
open PySem PySem.Spec PyProof.Rows L2 He
/-- the law's code object -/
theorem law_code {K : PySem.W.Frag} {fd : FuncData} (F : FnI K (dG "law" 52) (ga K "law") fd) (cdv : Value) (h : CodeAt K (ga K "law") cdv) : cdv = .ref (codeOf K ("law", none)) := by
  obtain ⟨oc, od, fd', osl, lk, e⟩ := h
  obtain ⟨oc2, od2, dV, kV, doc, pm, an, cdv2, ct, osl2, rfl, lk2, hcd, _, _⟩ := F.ex
  have lk3 := lk.symm.trans lk2
  cases lk3
  have e2 : cdv2 = cdv := e
  subst e2
  obtain ⟨c, rfl⟩ := codeIn_ref hcd
  rw [codeOf_eq (p := ("law", none)) lk2 rfl]
theorem law_is {l : PySem.W.OpenLaw} {w : World} {K : PySem.W.Frag} {mg : Str → Option Value} {h : Heap} {fa : Addr} (X : K.In h) (G : h.Ns mainGlobals mg) (c : SaysP faL fnL tfL exL gsL w h K) (hmg : mg "law" = some (.ref fa)) :
    LawIs l w K CX0 14 63 "_law_script" mg fa h := by
  have T := txt_of X G c
  obtain ⟨fd, F⟩ := T.defs 31 (dG "law" 52) rfl
  have e := hmg.symm.trans (T.glo 31 "law" rfl)
  cases e
  have m : (("law", none) : Defn) ∈ tfL := List.mem_cons_self
  have hb := FunD.bindsA (ps := ["_law_script"]) F fun _ _ _ _ _ _ us hl => match us, hl with | [_], _ => rfl
  refine ⟨fd, codeOf K ("law", none), tabOf K (codeOf K ("law", none)), spLaw K (tabOf K (codeOf K ("law", none))), c.1.empty _ m, c.1.out _ m, PySem.W.codeHd_of_K X (c.1.hd _ m), fun s u => hb s [u] rfl, fun H a ns hn hP hS => ⟨a, ns, rfl, hS, Nat.le_trans hn (by decide), hP, fun _ => rfl⟩, fun base hK hns TB => ?_⟩
  exact ok_law T F (law_code F) TB
end K25
open PySem PySem.W PySem.Calls PyProof.Rows
theorem PySem.Challenge.cw_ownharm_k25_whole_runs_cut_anywhere_holds : PySem.Challenge.rw_ownharm_k25_whole_runs_cut_anywhere.Holds := by
  w_on; o_law
  refine HandSHeadRun.head_any (r := OpenLaw.row PySem.Challenge.rw_ownharm_k25_whole_runs_cut_anywhere) (q := view (OpenLaw.row PySem.Challenge.rw_ownharm_k25_whole_runs_cut_anywhere).prog [52]) (H := K25.hk) (ob := K25.ob) (M := 4000) (loose := K25.names) (d := HandSHeadRun.topDef (OpenLaw.row PySem.Challenge.rw_ownharm_k25_whole_runs_cut_anywhere).prog 52) (kwd := []) K25.ob_eq
    (by kernel_rfl) (fun s => by kernel_rfl) K25.run (by kernel_rfl) (by kernel_rfl) (by kernel_rfl) (by rfl) (by first | assumption | decide +kernel) (by decide +kernel) ⟨rfl, rfl, rfl, rfl, rfl, by decide +kernel⟩ ?hw ?hc
  case hw => w_witness2
  case hc =>
    refine K25.walk_end (l := PySem.Challenge.rw_ownharm_k25_whole_runs_cut_anywhere) (n := 63) (k := 14) (x := "_law_script") (CX := fun _ => L2.CX0) rfl (by decide) (by kernel_rfl) ⟨rfl, by decide, by decide⟩ ?F (fun _ _ _ _ _ z => z)
    intro w mg fa h Y G hmg0
    obtain ⟨K, KX, c⟩ := Y
    have hmg : mg ("law" : PySem.Str) = some (.ref fa) := by
      have e : (HandSHeadRun.topDef (OpenLaw.row PySem.Challenge.rw_ownharm_k25_whole_runs_cut_anywhere).prog 52).name = ("law" : PySem.Str) := by kernel_rfl
      rw [← e]
      exact hmg0
    exact ⟨K, KX, K25.law_is KX G c hmg⟩
