import PyProof.Rows.All
import Wide.All
import OpenK.AllK
import Wide.FinOn
import HandS.ForMost
import HandS.ForExc
import HandS.Flow
import HandS.CallSlots
import HandS.IsInst
import HandS.Wide
import HandS.WideBits
import HandS.Defaults
import HandS.Conv
import HandS.Style
import HandS.StrMore
import HandS.StrSplit
import HandS.Strs
import HandS.Iter
import HandS.More
import HandS.ExcInit
import HandS.ExcField
import HandS.ExcIs
import HandS.TryElse
import HandS.ExcCtx
import HandS.HotCalls
import HandS.SuiteRaise
import HandS.RaiseFrom
import HandS.HeadHook3
import HandS.HeadEnd
import HandS.Head2
import KE.KExcIs
import KE.GoesEnumKw
import PyProof.WalksS
import HandS.Rev
import HandS.HeadWalk
import HandS.Codes
import HandS.EndTab
import HandS.Words
import PySem.Challenge.RW_elderline_k03_whole_row_or_ring
import PyProof.P3Eq
set_option Elab.async false
set_option linter.all false
set_option maxRecDepth 100000
set_option maxHeartbeats 1000000
/-! Na1: exceptions in the air; of a class that is not bad it is known that its context is None. -/
namespace Mi
open PySem PySem.Spec PyProof.Rows L2
variable {bad : Value → Bool}
def Zb (bad : Value → Bool) (cv : Value) (d : Option Addr) : Obj → Prop := fun o => o.cls = cv ∧ o.dict = d ∧ (bad cv = false → PXN.CtxN o)
theorem Zb.one {cv : Value} {d : Option Addr} : PXN.Steady1 (Zb bad cv d) := fun o v h => ⟨PXN.steady_cls o v h.1, PXN.steady_dict o v h.2.1, fun hb => PXN.steady_ctx o v (h.2.2 hb)⟩
theorem Zb.zc {cv : Value} {d : Option Addr} {o : Obj} (h : Zb bad cv d o) : Zc cv d o := ⟨h.1, h.2.1⟩
/-- an exception at a, over the state sI of the context X -/
structure AirD (bad : Value → Bool) (X : Cx) (a : Addr) (cv : Value) (d : Option Addr) (σ : L2.St) (H : Hp) (pins : List (Addr × Obj)) (B : Heap) (sI s' : Shared) : Prop where
  inv : Inv X pins σ H sI
  grd : ∀ b o, sI.heap.get? b = some o → b ∉ frs X.stack → B.get? b = some o
  up : sI.heap.UpToSlots s'.heap
  sky : ∀ L, X.env.frame = some L → Sky B X.stack a (Zb bad cv d) L s'.heap
  free : H a = none
  os : s'.os = sI.os
  bare : AllBare s'.gens
def Air (bad : Value → Bool) (X : Cx) (W : WX) (u : Value) (s' : Shared) : Prop :=
  ∃ a cv d σ H pins B sI, u = .ref a ∧ AirD bad X a cv d σ H pins B sI s' ∧ W cv d σ H
/-- an exception that left a call -/
structure OutD (bad : Value → Bool) (P : Program) (w : World) (outer : List Env) (H : Hp) (s s' : Shared) (a : Addr) (cv : Value) (d : Option Addr) (H' : Hp) (B : Heap) : Prop where
  fly : HandSPX.FlyingZ B outer a (Zb bad cv d) s'.heap
  hok : HOk P w H' B
  ub : UB (frs outer) H H' s.heap B s'.heap
  free : H' a = none
  os : s'.os = s.os
  bare : AllBare s'.gens
def Out (bad : Value → Bool) (P : Program) (w : World) : CXT := fun outer H s E u s' =>
  ∃ a cv d H' B, u = .ref a ∧ OutD bad P w outer H s s' a cv d H' B ∧ E cv d H'
def Tk (bad : Value → Bool) (X : Cx) (W : WX) : Prop := ∀ u s', Air bad X W u s' → X.xe u s'
theorem Out.never {P : Program} {w : World} {outer : List Env} {H : Hp} {s s' : Shared} {u : Value} (h : Out bad P w outer H s (fun _ _ _ => False) u s') : False := by
  obtain ⟨_, _, _, _, _, _, _, z⟩ := h
  exact z
section
variable {X : Cx} {pins : List (Addr × Obj)} {σ : L2.St} {H : Hp} {sI s s' : Shared} {B : Heap} {W : WX} {E : XK}
theorem Tk.imp {W' : WX} (t : Tk bad X W) (h : ∀ c d σ H, W' c d σ H → W c d σ H) : Tk bad X W' := fun u s' z => by
  obtain ⟨a, cv, d, σ, H, pins, B, sI, e, D, w⟩ := z
  exact t u s' ⟨a, cv, d, σ, H, pins, B, sI, e, D, h _ _ _ _ w⟩
/-- what left a call is in our air -/
theorem Air.of_call (I : Inv X pins σ H s) (hW : ∀ cv d H', E cv d H' → W cv d σ H') {u : Value} (c : Out bad X.prog X.w X.stack H s E u s') : Air bad X W u s' := by
  obtain ⟨a, cv, d, H', B, rfl, O, hE⟩ := c
  let keepB : Addr → Bool := fun b => (B.get? b).isSome || decide (b ∈ frs X.stack)
  obtain ⟨G, gIn, gOut⟩ := restrict s'.heap keepB
  have stB : B.StaysIn s'.heap := O.fly.1
  have ofB : ∀ b o, B.get? b = some o → G.get? b = some o := fun b o e => (gIn b (by simp [keepB, e])).trans (stB b o e)
  have ofF : ∀ b, b ∈ frs X.stack → G.get? b = s'.heap.get? b := fun b hb => gIn b (by simp [keepB, hb])
  have inG : ∀ b o, G.get? b = some o → s'.heap.get? b = some o ∧ ((B.get? b).isSome = true ∨ b ∈ frs X.stack) := fun b o e => by
    by_cases hq : keepB b = true
    · exact ⟨(gIn b hq).symm.trans e, by simpa [keepB, Bool.or_eq_true] using hq⟩
    · have hq2 : keepB b = false := by simpa using hq
      have := gOut b hq2
      rw [e] at this
      exact nomatch this
  have U : Un (frs X.stack) [] H H' s.heap G := {
    keep := fun b o e n hb _ => ofB b o (O.ub.keep b o e n hb)
    slot := fun b o e n hb _ => (O.ub.slot b o e hb).imp fun sl q => (ofF b hb).trans q
    free := fun b o e n _ => O.ub.free b o e n
    there := fun b o e _ => by
      by_cases hb : b ∈ frs X.stack
      · obtain ⟨sl, q⟩ := O.ub.slot b o e hb
        exact ⟨_, (ofF b hb).trans q⟩
      · obtain ⟨o2, q⟩ := O.ub.there b o e hb
        exact ⟨o2, ofB b o2 q⟩
    tups := O.ub.tups
    frzs := O.ub.frzs
    tbls := O.ub.tbls }
  refine ⟨a, cv, d, σ, H', pins, B, { s with heap := G, gens := s'.gens, drawn := s'.drawn, toks := s'.toks }, rfl, ⟨I.call (ch := []) U (O.hok.kept ofB) O.bare (fun _ z => nomatch z), fun b o e hb => ?_, Heap.UpToSlots.of_keeps fun b o e => (inG b o e).1, fun _ _ => .inr (.inl O.fly), O.free, O.os, O.bare⟩, hW _ _ _ hE⟩
  obtain ⟨e1, h | h⟩ := inG b o e
  · obtain ⟨o2, q⟩ := Option.isSome_iff_exists.mp h
    have z := (stB b o2 q).symm.trans e1
    cases z
    exact q
  · exact absurd h hb
/-- a new one -/
theorem Air.new {a : Addr} {oe : Obj} {vs : Array Value} {cv : Value} {d : Option Addr} (I : Inv X pins σ H sI) (k : ∀ b o, sI.heap.get? b = some o → s'.heap.get? b = some o) (na : sI.heap.get? a = none) (ea : s'.heap.get? a = some oe)
    (hz : Zb bad cv d oe) (hd : oe.data = .fields vs) (h1 : vs[1]? = some .none) (nH : H a = none) (os : s'.os = sI.os) (ag : AllBare s'.gens) (hw : W cv d σ H) : Air bad X W (.ref a) s' := by
  have gone : (PySem.W.hideAll sI.heap (frs X.stack)).get? a = none := by
    cases q : (PySem.W.hideAll sI.heap (frs X.stack)).get? a with
    | none => rfl
    | some o => exact nomatch na.symm.trans (PySem.W.of_hideAll _ q)
  have ff : s'.heap.FunFrames (PySem.W.hideAll sI.heap (frs X.stack)) X.stack :=
    Heap.FunFrames.of_keeps (fun b o e _ => ⟨o, k b o e, rfl⟩) (funFrames_none I.stack fun b hb => PySem.W.hideAll_none _ hb)
  exact ⟨a, cv, d, σ, H, pins, PySem.W.hideAll sI.heap (frs X.stack), sI, rfl, ⟨I, fun b o e hb => PySem.W.hideAll_get _ e hb, Heap.UpToSlots.of_keeps k,
    fun _ _ => .inl ⟨fun b o e => k b o (PySem.W.of_hideAll _ e), gone, ff, oe, vs, ea, hz, hd, h1⟩, nH, os, ag⟩, hw⟩
/-- it leaves the def -/
theorem Air.leave (hs : X.stack = X.env :: X.outer) (hf : X.env.frame = some X.env.locals) (hex : X.ex = []) {E1 : Value → Shared → Prop} (hW : ∀ cv d σ H, W cv d σ H → E cv d H) {u : Value} (x : Air bad X W u s') :
    wpAny (model X.prog X.w) X.A (leaving X.env u) (fun _ s2 => Out bad X.prog X.w X.outer X.H_0 X.s_0 E u s2) E1 s' := by
  obtain ⟨a, cv, d, σ, H, pins, B, sI, rfl, D, hw⟩ := x
  have I := D.inv
  have fr : X.A.frames = some (X.env :: X.outer) := I.ok.frames.trans (by rw [hs])
  have nex : ∀ b, b ∉ X.ex := fun b => by rw [hex]; exact List.not_mem_nil
  have off : ∀ b o, X.s_0.heap.get? b = some o → b ∉ X.fs → b ∉ frs X.stack := fun b o e hb hm => (List.mem_cons.mp (I.stkSub b hm)).elim
    (fun z => absurd (Nat.lt_of_lt_of_le (Heap.lt_size e) I.ok.above) (by rw [z]; exact Nat.lt_irrefl _)) hb
  have fin : ∀ h2, HandSPX.FlyingZ B X.outer a (Zb bad cv d) h2 → s'.heap.UpToSlots h2 → Out bad X.prog X.w X.outer X.H_0 X.s_0 E (.ref a) { s' with heap := h2 } := fun h2 fl up2 =>
    ⟨a, cv, d, H, B, rfl, ⟨fl, I.inGround D.grd, {
      keep := fun b o e n hb => D.grd b o (I.base.keep b o e n hb (nex b)) (off b o e hb)
      slot := fun b o e hb => by
        obtain ⟨_, o1, e1, nf⟩ := I.ok.funs.mem hb
        cases e.symm.trans e1
        obtain ⟨s1, q1⟩ := I.base.slot b o e (I.ok.frf b hb) hb (nex b)
        obtain ⟨s2, q2⟩ := D.up b _ q1 nf
        obtain ⟨s3, q3⟩ := up2 b _ q2 nf
        exact ⟨s3, q3⟩
      free := fun b o e n => I.base.free b o e n (nex b)
      there := fun b o e hb => (I.base.there b o e (nex b)).imp fun o2 q => D.grd b o2 q (off b o e hb)
      tups := I.base.tups
      frzs := I.base.frzs
      tbls := I.base.tbls }, D.free, D.os.trans I.os, D.bare⟩, hW _ _ _ _ hw⟩
  have sky := D.sky _ hf
  rw [hs] at sky
  rcases sky with ⟨hB, hn, hl, oe, vs, he, hz, hd, h1⟩ | fl | hd
  · exact PXN.leaving_firstZ Zb.one fr hl hf he hB hn hd h1 hz fin
  · exact PXN.leaves_onZ Zb.one fr hf fl fin
  · exact HandSPX.leaves_heldZ hf hd fin
theorem tk_leave (hs : X.stack = X.env :: X.outer) (hf : X.env.frame = some X.env.locals) (hex : X.ex = []) {E1 : Value → Shared → Prop}
    (hx : X.xe = fun e s2 => wpAny (model X.prog X.w) X.A (leaving X.env e) (fun _ s3 => Out bad X.prog X.w X.outer X.H_0 X.s_0 E e s3) E1 s2) : Tk bad X (fun cv d _ H => E cv d H) := fun u s2 x => by
  rw [hx]
  exact Air.leave (W := fun cv d _ H => E cv d H) (E := E) hs hf hex (fun _ _ _ _ h => h) x
/-- what a callee lets out is taken -/
theorem passAtB (tk : Tk bad X W) (σ : L2.St) : PassesAt (Out bad X.prog X.w) X σ (WE W σ) := fun _ _ _ e s2 I c => tk e s2 (Air.of_call I (fun _ _ _ h => h) c)
end
end Mi
set_option maxHeartbeats 1000000
/-! Na2: one contract of a def for both modes: nothing is handled, or an exception whose context is None. -/
namespace Mi
open PySem PySem.Spec PyProof.Rows L2 L2H
abbrev XI := Addr → Value → Option Addr → Prop
/-- an exception's class -/
def rsK (K : PySem.W.Frag) (cv : Value) : Prop := PySem.W.subIn K cv (.type "BaseException") = some true ∧ PySem.W.typeIn K cv = some (.type "type")
/-- how it stands around a def: h: an exception is handled; xi: the exceptions that are known, each pinned -/
structure MdA (K : PySem.W.Frag) (bad : Value → Bool) (xi : XI) (h : Bool) (A : Around) (pn : List (Addr × Obj)) : Prop where
  calm : h = false → A.handled = none
  hot : h = true → ∃ p, Hot1 A p ∧ p ∈ pn ∧ rsK K p.2.cls
  pin : ∀ a cv d, xi a cv d → A.handled = some (.ref a) ∧ ∃ oe, (a, oe) ∈ pn ∧ Zb bad cv d oe ∧ ∃ vs, oe.data = .fields vs
theorem MdA.of_handled {K : PySem.W.Frag} {bad : Value → Bool} {xi : XI} {h : Bool} {A A' : Around} {pn : List (Addr × Obj)} (m : MdA K bad xi h A pn) (e : A'.handled = A.handled) : MdA K bad xi h A' pn where
  calm := fun z => e.trans (m.calm z)
  hot := fun z => by
    obtain ⟨p, ⟨e1, e2⟩, e3⟩ := m.hot z
    exact ⟨p, ⟨e.trans e1, e2⟩, e3⟩
  pin := fun a cv d z => ⟨e.trans (m.pin a cv d z).1, (m.pin a cv d z).2⟩
structure FnU (bad : Value → Bool) (xi : XI) (h : Bool) (P : Program) (w : World) (K : PySem.W.Frag) (mg : Str → Option Value) (base : Heap) (CX : CXT) (k : Nat) (f : Addr) (fd : FuncData) (ps : List Str) (sp : Sp) : Prop where
  len : ∀ vs H Q E, sp vs H Q E → vs.length = ps.length
  run : ∀ (A : Around) (outer : List Env) (s : Shared) (H : Hp) (args : Args) (us : List Value) (vs : List V) (Q : VK) (E : XK) (pn : List (Addr × Obj)), RoomH k A → MdA K bad xi h A pn → (∀ p ∈ pn, PinOk outer H s p) → Env0 P w K mg base A outer s H →
    BindsTo s fd args (ps.zip us) → Vals vs us → sp vs H Q E → codeAny (model P w) A (.call (.ref f) args) (CR CX outer P w H s Q E) s
theorem FnU.ok {bad : Value → Bool} {xi : XI} {P : Program} {w : World} {K : PySem.W.Frag} {mg : Str → Option Value} {base : Heap} {CX : CXT} {k : Nat} {f : Addr} {fd : FuncData} {ps : List Str} {sp : Sp} (hx : ∀ a cv d, ¬ xi a cv d) (F : FnU bad xi false P w K mg base CX k f fd ps sp) : FnOk P w K mg base CX k f fd ps sp :=
  ⟨F.len, fun A outer s H args us vs Q E hr e0 hb r hsp => F.run A outer s H args us vs Q E [] (roomH_of hr) ⟨fun _ => hr.hd, (fun z => nomatch z), fun a cv d z => absurd z (hx a cv d)⟩ (fun _ z => nomatch z) e0 hb r hsp⟩
/-- the context of its body -/
def cxU (CX : CXT) (P : Program) (w : World) (K : PySem.W.Frag) (mg : Str → Option Value) (base : Heap) (N : List Str) (qual : Str) (scope : Scope) (f : Addr) (cd : Value) (A : Around) (outer : List Env) (s : Shared) (H : Hp) (E : XK) (h : Bool) (pn : List (Addr × Obj)) : Cx :=
  { cxOf CX P w K mg base N qual scope f cd A outer s H E with calm := !h, pn := pn }
section
variable {bad : Value → Bool} {xi : XI} {h : Bool} {CX : CXT} {P : Program} {w : World} {K : PySem.W.Frag} {mg : Str → Option Value} {base : Heap} {N ps : List Str} {qual : Str} {scope : Scope} {f : Addr} {cd : Value} {A : Around} {outer : List Env} {s s1 : Shared} {H : Hp} {E : XK} {us : List Value} {vs : List V} {pn : List (Addr × Obj)}
theorem inv_startU (S : FnScope N ps scope) (hd : h = false → A.handled = none) (hp : ∀ p ∈ pn, PinOk outer H s p) (e0 : Env0 P w K mg base A outer s H) (hl : vs.length = ps.length) (r : Vals vs us)
    (x : InCallC s s.heap.objs.size (bindL (envOfC qual scope s.heap.objs.size f cd).kindOf (ps.zip us) fun _ => none) (cellsFrom (s.heap.objs.size + 1) scope.names []) (bindC (envOfC qual scope s.heap.objs.size f cd).kindOf (ps.zip us) fun _ => none) s1) :
    Inv (cxU CX P w K mg base N qual scope f cd A outer s H E h pn) [] (L2.start N vs) H s1 := by
  have e1 : Env0 P w K mg base { A with handled := none } outer s H := ⟨e0.frames, e0.mod, e0.bs, e0.bsz, e0.funs, e0.frf, e0.hok, e0.bare⟩
  have I := inv_start (CX := CX) (E := E) (A := { A with handled := none }) S rfl e1 hl r x
  obtain ⟨h1, tk, es, hk⟩ := x.done
  have k : ∀ b o, s.heap.get? b = some o → s1.heap.get? b = some o := fun b o e => by
    rw [es]
    exact hk b o e
  have ok := I.ok
  have okU : (cxU CX P w K mg base N qual scope f cd A outer s H E h pn).Ok :=
    ⟨ok.mod, ok.kind, ok.glob, ok.blt, ok.above, ok.inj, ok.has, ok.cab, fun z => hd (by simpa using (show (!h) = true from z)), Around.frames_deeper e0.frames, ok.stk, ok.exf, ok.bs, ok.bsz, ok.noex, ok.exfs, ok.funs, ok.frf⟩
  refine ⟨okU, I.os, I.bare, I.base, I.loc, I.cell, I.free, I.freeC, fun p hm => ?_, I.hok, I.len⟩
  have hm : p ∈ pn := by simpa using (show p ∈ pn ++ ([] : List (Addr × Obj)) from hm)
  have q := hp p hm
  exact ⟨k _ _ q.get, q.free, Nat.ne_of_lt (Heap.lt_size q.get), q.nofs, q.nocell⟩
end
/-- THE RULE: a def by its body -/
theorem FunD.okU {bad : Value → Bool} {xi : XI} {h : Bool} {CX : CXT} {P : Program} {w : World} {K : PySem.W.Frag} {mg : Str → Option Value} {base : Heap} {x qual : Str} {params : Arguments} {body : List Stmt} {scope : Scope} {dvs : List V} {kws : List (Str × V)} {f : Addr} {fd : FuncData} {N ps : List Str} {k : Nat} {sp : Sp}
    (F : FunD K x qual params body scope dvs kws f fd) (S : FnScope N ps scope) (len : ∀ vs H Q E, sp vs H Q E → vs.length = ps.length)
    (hbody : ∀ (cdv : Value) (A : Around) (outer : List Env) (s : Shared) (H : Hp) (vs : List V) (Q : VK) (E : XK) (pn : List (Addr × Obj)), MdA K bad xi h (A.deeper (envOfC qual scope s.heap.objs.size f cdv)) pn → RoomH k (A.deeper (envOfC qual scope s.heap.objs.size f cdv)) → sp vs H Q E →
      ∃ t, PSs (cxU CX P w K mg base N qual scope f cdv A outer s H E h pn) body t ∧ t { nx := fun _ H' => Q .non H', rt := Q } (L2.start N vs) H) : FnU bad xi h P w K mg base CX (k + 1) f fd ps sp := by
  obtain ⟨oc, od, dV, kV, doc, pm, an, cdv, ct, osl, rfl, lk, hcd, _, _⟩ := F.ex
  refine ⟨len, fun A outer s H args us vs Q E pn hr hm hp e0 hb r hsp => ?_⟩
  have hl := len _ _ _ _ hsp
  have old : ∀ b o, base.get? b = some o → s.heap.get? b = some o := fun b o e => (e0.bs b o e).1
  have KX : K.In s.heap := e0.mod.kin.keeps old
  have bound : ∀ y ∈ ps.zip us, scope.names.lookup y.1 = some .local ∨ (scope.names.lookup y.1 = some .cell ∧ ((cellsFrom (s.heap.objs.size + 1) scope.names []).lookup y.1).isSome = true) := fun y hy =>
    (S.par y.1 (List.of_mem_zip hy).1).imp id fun q => ⟨q, PySem.W.cellsFrom_some _ _ _ (.inl q)⟩
  refine codeAny_call_function hr.depth (KX _ _ lk) rfl S.co S.gen rfl (PySem.W.codeRec_of KX hcd) (hb _ _ _ _ (wpAny_newFunctionEnv_cells S.kind bound fun env he s1 x => ?_))
  subst he
  refine ⟨(e0.mod.nolimit.keeps old).keeps x.toInCall.keep, codeAny_func ?_⟩
  have hmd : MdA K bad xi h (A.deeper (envOfC qual scope s.heap.objs.size f cdv)) pn := hm.of_handled rfl
  obtain ⟨t, ht, hq⟩ := hbody cdv A outer s H vs Q E pn hmd (hr.deeper _) hsp
  have I : Inv (cxU CX P w K mg base N qual scope f cdv A outer s H E h pn) [] (L2.start N vs) H s1 := inv_startU S hm.calm hp e0 hl r x
  refine wpAny_mono (ht.run [] s1 (L2.start N vs) H _ I hq) (fun fl s2 hs => ?_) fun e s2 hs => hs
  have back : ∀ {σ' : L2.St} {H' : Hp} {v : V} {u : Value}, Inv (cxU CX P w K mg base N qual scope f cdv A outer s H E h pn) [] σ' H' s2 → L2.RelV v u → Q v H' → CE outer P w H s Q u s2 :=
    fun {σ' H' v u} J rv q => ⟨v, H', J.os, J.bare, J.base, J.hok, rv, q⟩
  cases fl with
  | next =>
    obtain ⟨σ2, H2, J, q⟩ := hs
    exact back (v := V.non) (u := Value.none) J rfl q
  | ret u =>
    obtain ⟨v, σ2, H2, J, rv, q⟩ := hs
    exact back J rv q
  | brk => obtain ⟨_, _, _, q⟩ := hs; exact False.elim q
  | cont => obtain ⟨_, _, _, q⟩ := hs; exact False.elim q
/-- how it stands in a context -/
abbrev MdX (bad : Value → Bool) (xi : XI) (h : Bool) (X : Cx) : Prop := MdA X.K bad xi h X.A X.pn
section
variable {bad : Value → Bool} {xi : XI} {h : Bool} {X : Cx} {CX : CXT} {k : Nat} {f : Addr} {fd : FuncData} {ps : List Str} {sp : Sp} {dvs : List V} {ds : List Value} {E : L2.St → XK} {pins : List (Addr × Obj)} {σ : L2.St} {H : Hp} {s : Shared}
theorem _root_.L2.Inv.pinsOk (I : Inv X pins σ H s) : ∀ p ∈ X.pn, PinOk X.stack H s p := fun p hp => by
  obtain ⟨q1, q2, q3, q4, q5⟩ := I.pin p (List.mem_append_left _ hp)
  exact ⟨q1, q2, fun hm => (List.mem_cons.mp (I.stkSub p.1 hm)).elim q3 q4, q5⟩
theorem run_fnU {Q : VK} {us : List Value} {vs : List V} (F : FnU bad xi h X.prog X.w X.K X.mg X.base CX k f fd ps sp) (hr : RoomH k X.A) (hm : MdX bad xi h X) (hb : Binds X.K fd ps ds) (hd : Vals dvs ds) (hx : PassesAt CX X σ (E σ))
    (I : Inv X pins σ H s) (r : Vals vs us) (hq : sp (vs ++ dvs) H Q (E σ)) : wpAny (model X.prog X.w) X.A (call (.ref f) us) (EP X pins σ Q) X.xe s := by
  have r2 := r.append hd
  have hl : (us ++ ds).length = ps.length := r2.length.symm.trans (F.len _ _ _ _ hq)
  refine wpAny_call (codeAny_mono (F.run X.A X.stack s H ⟨us, []⟩ (us ++ ds) (vs ++ dvs) Q (E σ) X.pn hr hm I.pinsOk I.env0 (hb s us I.kIn hl) r2 hq) fun r s2 hq2 => ?_)
  cases r with
  | error e => exact hx pins H s e s2 I hq2
  | ok fl =>
    cases fl with
    | ret u => exact I.after hq2
    | next => exact False.elim hq2
    | brk => exact False.elim hq2
    | cont => exact False.elim hq2
end
end Mi
set_option maxHeartbeats 1000000
/-! Na3: raise. -/
namespace Mi
open PySem PySem.Spec PyProof.Rows L2 L2H
variable {bad : Value → Bool}
theorem zb_of {cv : Value} {d : Option Addr} {o : Obj} (h : L2N.Zn cv d o) : Zb bad cv d o := ⟨h.1, h.2.1, fun _ => h.2.2⟩
/-- raise X(..), nothing is handled -/
theorem ps_raiseB {X : Cx} {W : WX} {e : Expr} {t : L2.St → Hp → XK → Prop} {pos : Pos} (hc : X.calm = true) (tk : Tk bad X W) (he : L2N.PMk X e t) : PS X (.Raise (some e) none pos) (fun _ σ H => t σ H fun cv d H' => W cv d σ H') := by
  refine ⟨fun pins s σ H D I h => ?_⟩
  show wpAny _ _ (do standAt pos; raiseStmt X.env (some (do let v ← eval e X.env; standAt pos; pure v)) none) _ _ _
  refine wpAny_bind (wpAny_standAt (raise_made (I.ok.hd hc) (wpAny_bind (wpAny_mono (he pins s σ H _ I h) (fun u s1 hu => wpAny_bind (wpAny_standAt (wpAny_pure ?_))) fun _ _ z => z))))
  obtain ⟨a, oe, vs, sI, H1, cv, d, rfl, J, k, n1, ea, hz, hd, h1, nH, os, ag, rs, q⟩ := hu
  obtain ⟨r1, r2⟩ := rs (model X.prog X.w) s1.heap (J.kIn.keeps k)
  exact ⟨a, oe, vs, cv, rfl, ea, hz.1, hd, h1, r1, r2, tk _ _ (Air.new J k n1 ea (zb_of hz) hd h1 nH os ag q)⟩

/-! ### an own __init__ that stores one field -/
def spInit (K : PySem.W.Frag) (f : Str) : Sp := fun vs H Q _ => ∃ (a C : Addr) (v : V), vs = [.ref a, v] ∧ OexC K C ∧ PySem.W.findIn K (.ref C) f = some none ∧ H a = some (exo a C none) ∧
  ∀ dx, H dx = none → dx ≠ a → Q .non (upd (upd H dx (exd dx [(f, v)])) a (exo a C (some dx)))
/-- such a text -/
def initB (f g : Str) (ps : List Str) (sc : Scope) : List Stmt → Bool
  | [.Assign [.Attribute (.Name a _) b _] (.Name c _) _] => decide (b = f) && (decide (c = g) && (decide (ps = [a, g]) && (decide (sc.names.lookup a = some .local) && decide (sc.names.lookup c = some .local))))
  | _ => false
theorem init_ok {xi : XI} {h : Bool} {CX : CXT} {P : Program} {w : World} {K : PySem.W.Frag} {mg : Str → Option Value} {base : Heap} {x qual f g a : Str} {params : Arguments} {scope : Scope} {fI : Addr} {fd : FuncData} {p1 p2 p3 p4 : Pos}
    (F : FunD K x qual params [.Assign [.Attribute (.Name a p1) f p2] (.Name g p3) p4] scope [] [] fI fd) (S : FnScope [a, g] [a, g] scope) (h1 : (a == ("__debug__" : Str)) = false) (h2 : (g == ("__debug__" : Str)) = false) (h3 : (a == ("__classdict__" : Str)) = false) (h4 : (g == ("__classdict__" : Str)) = false) : FnU bad xi h P w K mg base CX 1 fI fd [a, g] (spInit K f) := by
  refine FunD.okU F S ?_ ?_
  · rintro vs H Q E ⟨b, C, v, rfl, _⟩
    rfl
  · rintro cdv A outer s H vs Q E pn hm hr ⟨b, C, v, rfl, T, hno, hb, hq⟩
    have vis : ∀ x ∈ [a, g], Vis scope x := fun x hx => (S.par x hx).elim (fun z => .inl z) fun z => .inr (.inl z)
    refine ⟨_, pss_cons (ps_ost (pe_var (i := 0) (x := a) rfl (vis a (by simp)) h1 h3) (pe_var (i := 1) (x := g) rfl (vis g (by simp)) h2 h4)) pss_nil, ?_⟩
    refine ⟨v, rfl, .ref b, rfl, b, C, rfl, T, hno, .inl ⟨hb, fun dx n ne => ?_⟩⟩
    exact hq dx n ne
theorem roomH_make {k : Nat} {A : Around} (r : RoomH (k + 1) A) (C : Addr) (us : List Value) (kw : List (Str × Value)) : RoomH k (A.under (.builtin "type.__call__" ⟨.ref C :: us, kw⟩)) :=
  ⟨by have := r.dp; rw [make_depth]; omega, by have := r.un; rw [make_units]; omega⟩
/-- X(e), X an own exception with such an __init__ -/
theorem pmk_oxB5 {xi : XI} {h : Bool} {X : Cx} {CX : CXT} {x f : Str} {C fI : Addr} {k : Nat} {fd : FuncData} {ps : List Str} {e : Expr} {te : TE} {p pos : Pos} (T : OexC X.K C) (iC : PySem.W.findIn X.K (.ref C) "__init__" = some (some (.ref fI))) (tI : PySem.W.typeIn X.K (.ref fI) = some (.type "function"))
    (hno : PySem.W.findIn X.K (.ref C) f = some none) (F1 : FnU bad xi h X.prog X.w X.K X.mg X.base CX k fI fd ps (spInit X.K f)) (hr : RoomH (k + 1) X.A) (hm : MdX bad xi h X) (hb : Binds X.K fd ps []) (hx : ∀ outer H s u s', ¬ CX outer H s (fun _ _ _ => False) u s')
    (hg : Gl X x) (hmg : X.mg x = some (.ref C)) (ha : PE X e te) (hdb : (x == ("__debug__" : Str)) = false) (he : starEach [e] X.env = [(false, eval e X.env)]) :
    L2H.PMk5 X (.Call (.Name x p) [e] [] pos) (fun σ H Q => te σ H fun v H1 => ∃ w, [v] = [w] ∧ ∀ d, H1 d = none → Q (.ref C) (some d) (upd H1 d (.xd [(f, w)]))) := by
  intro pins s σ H Q I hq
  obtain ⟨nm, qn, N, bs, bm, sn, sub, ab, col, dd, k0, k1, k2, k3, k5, hC, hbm⟩ := T.cls
  have he2 : starEach [e] X.env = (false, eval e X.env) :: starEach [] X.env := he
  have pa : PA X [e] (tCons te tNil) := pa_cons ha pa_nil he2
  refine wpAny_Call_Name_kw (ld_glob I hg hmg ?_ hdb)
  refine PySem.W.callWith_K (h₀ := X.base) I.ok.mod.kin T.kC (thn (pa.run pos pins s σ H (fun vs H1 => ∃ v, vs = [v] ∧ ∀ d, H1 d = none → Q (.ref C) (some d) (upd H1 d (.xd [(f, v)]))) I ?_) fun us s1 hh => ?_) he2 rfl
  · exact hq
  obtain ⟨vs, H1, I1, r1, v, rfl, q1⟩ := hh
  refine ⟨I1.kIn, ?_⟩
  show wpAny _ _ (call (.ref C) us) _ _ _
  obtain ⟨hp, g, dr, tk, os⟩ := s1
  let a := hp.objs.size + 1
  have za : hp.objs.size ≤ a := Nat.le_succ _
  have na : H1 a = none := I1.hok.fresh za
  let h2 := (hp.push (PySem.W.kdv_tup us)).push (PySem.HandSPX.excO C hp.objs.size)
  have kk : ∀ b o, hp.get? b = some o → h2.get? b = some o := fun b o z => Heap.get?_push_of_some _ (Heap.get?_push_of_some _ z)
  have hget : h2.get? a = some (PySem.HandSPX.excO C hp.objs.size) := by
    show ((hp.push (PySem.W.kdv_tup us)).push (PySem.HandSPX.excO C hp.objs.size)).get? (hp.objs.size + 1) = _
    heap_get
  have I2 : Inv X pins σ (upd H1 a (exo a C none)) ⟨h2, g, dr, tk, os⟩ := I1.laid (t' := tk) (a := a) (o := exo a C none) (h' := h2) kk za (exo_ok hget)
  have r2 : Vals [V.ref a, v] (Value.ref a :: us) := .cons rfl r1
  have hl : (Value.ref a :: us).length = ps.length := r2.length.symm.trans (F1.len _ _ (fun _ _ => True) (fun _ _ _ => True) ⟨a, C, v, rfl, T, hno, (upd_same : upd H1 a (exo a C none) a = _), fun _ _ _ => trivial⟩)
  have hus : us.length ≤ sizeLine := by
    rw [← r1.length, sizeLine_eq]
    exact (by decide : 1 ≤ 16777216)
  have sp : spInit X.K f [V.ref a, v] (upd H1 a (exo a C none)) (fun w H2 => w = .non ∧ ∃ d, H1 d = none ∧ d ≠ a ∧ H2 = upd (upd (upd H1 a (exo a C none)) d (exd d [(f, v)])) a (exo a C (some d))) (fun _ _ _ => False) :=
    ⟨a, C, v, rfl, T, hno, upd_same, fun d n ne => ⟨rfl, d, by rw [upd_ne ne] at n; exact n, ne, rfl⟩⟩
  have b := hb ⟨h2, g, dr, tk, os⟩ (Value.ref a :: us) I2.kIn (by rw [List.append_nil]; exact hl)
  rw [List.append_nil] at b
  refine wpAny_call (PySem.HandSPX.call_own F.excBase_ValueError (fun Y => PySem.HandSPX.refsVE_contains Y bm hbm) (I1.kIn _ _ hC) (PySem.W.looks_findIn I1.kIn iC) (fun self => PySem.W.bind_fn I1.kIn self tI) hus
    (codeAny_mono (F1.run _ X.stack ⟨h2, g, dr, tk, os⟩ (upd H1 a (exo a C none)) ⟨Value.ref a :: us, []⟩ (Value.ref a :: us) [V.ref a, v] _ _ X.pn (roomH_make hr C us []) (hm.of_handled rfl) I2.pinsOk (I2.env0.make C us []) b r2 sp) fun r s2 hq2 => ?_))
  cases r with
  | error er => exact absurd hq2 (hx _ _ _ _ _)
  | ok fl =>
    cases fl with
    | ret u =>
      obtain ⟨w, H2, os2, bare2, un2, hok2, rv, ew, d, hd1, hda, eH⟩ := hq2
      subst ew
      obtain ⟨hh, gg, dd', tt, os'⟩ := s2
      have ea : H2 a = some (exo a C (some d)) := by rw [eH]; exact upd_same
      have ed : H2 d = some (exd d [(f, v)]) := by rw [eH, upd_ne hda]; exact upd_same
      obtain ⟨t0, G, J, kG, nG, hoe, nH⟩ := mk_end0 (d2 := dd') (t2 := tt) I1 za kk un2 hok2 os2 bare2 ea ed hd1
      have eH3 : upd (del H2 a) d (.xd [(f, v)]) = upd H1 d (.xd [(f, v)]) := by
        funext c
        by_cases hc : c = d
        · rw [hc, upd_same, upd_same]
        · rw [upd_ne hc, upd_ne hc]
          by_cases hca : c = a
          · rw [hca, del_same, na]
          · rw [del_ne hca, eH, upd_ne hca, upd_ne hc, upd_ne hca]
      refine ⟨rv, ⟨a, _, _, ⟨G, gg, dd', tt, os'⟩, _, .ref C, some d, rfl, J, kG, nG, hoe, ⟨rfl, rfl, fun vs z => by cases z; rfl⟩, rfl, rfl, nH, rfl, bare2, raises_own T.exC T.tyC, ?_⟩, ?_⟩
      · rw [eH3]
        exact q1 d hd1
      · intro b o vs z1 z2 z3
        cases z1
        cases hoe.symm.trans z2
        cases z3
        show (4 : Nat) < 6
        decide
    | next => exact False.elim hq2
    | brk => exact False.elim hq2
    | cont => exact False.elim hq2

/-! ### raise X(e) from the handled exception -/
open HotX in
/-- the heap with the cause told -/
def fromH (h : Heap) (a x1 : Addr) : Heap := (h.update a (Obj.mapFields (·.setIfInBounds 3 (.ref x1)))).update a (Obj.mapFields (·.setIfInBounds 4 (.bool true)))
theorem fromH_ne {h : Heap} {a b x1 : Addr} (hne : a ≠ b) : (fromH h a x1).get? b = h.get? b := (Heap.get?_update_other _ _ hne).trans (Heap.get?_update_other _ _ hne)
theorem fromH_at {h : Heap} {a x1 : Addr} {oe : Obj} {vs : Array Value} (ha : h.get? a = some oe) (hd : oe.data = .fields vs) :
    ∃ o2, (fromH h a x1).get? a = some o2 ∧ o2.cls = oe.cls ∧ o2.dict = oe.dict ∧ o2.data = .fields ((vs.setIfInBounds 3 (.ref x1)).setIfInBounds 4 (.bool true)) := by
  have d3 := Obj.data_mapFields hd (·.setIfInBounds 3 (Value.ref x1))
  have g3 := Heap.get?_update_self (Obj.mapFields (·.setIfInBounds 3 (Value.ref x1))) ha (Obj.isFreed_of_fields d3)
  have d4 := Obj.data_mapFields d3 (·.setIfInBounds 4 (Value.bool true))
  exact ⟨_, Heap.get?_update_self (Obj.mapFields (·.setIfInBounds 4 (Value.bool true))) g3 (Obj.isFreed_of_fields d4), (Obj.cls_mapFields ..).trans (Obj.cls_mapFields ..), (HandSPX.dict_mapFields ..).trans (HandSPX.dict_mapFields ..), d4⟩
/-- an instance of an exception's class is no type, and is an exception -/
structure ExIn (M : Model) (h : Heap) (a : Addr) (cv : Value) : Prop where
  ty : PySem.W.Looks M h (typeOf (.ref a)) cv
  inst : PySem.W.Looks M h (isInstance (.ref a) (.type "BaseException")) true
  nt : PySem.W.Looks M h (isType (.ref a)) false
theorem ExIn.of {M : Model} {h : Heap} {a : Addr} {o : Obj} {vs : Array Value} (ha : h.get? a = some o) (hd : o.data = .fields vs) (L : PySem.W.Looks M h (isSubtype o.cls (.type "BaseException")) true) : ExIn M h a o.cls := by
  have LT : PySem.W.Looks M h (typeOf (.ref a)) o.cls := fun A Q E s k q => wpAny_typeOf_ref (k _ _ ha) q
  refine ⟨LT, LT.andThen L, fun A Q E s k q => ?_⟩
  simp only [isType, loadHead]
  refine wpAny_bind (wpAny_loadPart (k _ _ ha) ?_)
  rw [hd]
  exact wpAny_pure q
section
variable {prog : Program} {w : World} {A : Around} {E : Value → Shared → Prop} {s : Shared}
theorem excFrom_ok {a : Addr} {cv : Value} {msg : String} {Q : Value → Shared → Prop} (L : ExIn (model prog w) s.heap a cv) (q : Q (.ref a) s) : wpAny (model prog w) A (excFromValue (.ref a) msg) Q E s := by
  unfold excFromValue isExcClass
  refine wpAny_bind (wpAny_bind (L.nt.here ?_))
  simp only [Bool.false_eq_true, if_false]
  refine wpAny_pure ?_
  simp only [Bool.false_eq_true, if_false]
  refine wpAny_bind (L.inst.here ?_)
  simp only [if_true]
  exact wpAny_pure q
open HotX in
theorem raise_from {env : Env} {x c : Sem Value} {Q : Flow → Shared → Prop} {x1 : Addr}
    (h : wpAny (model prog w) A x (fun v s₁ => ∃ a oe vs, v = .ref a ∧ s₁.heap.get? a = some oe ∧ oe.data = .fields vs ∧ vs[1]? = some .none ∧ 4 < vs.size ∧ x1 ≠ a ∧ HotAt A x1 s₁.heap ∧ (∃ cv, ExIn (model prog w) s₁.heap x1 cv) ∧ (∀ Q' : Value → Shared → Prop, Q' (.ref x1) s₁ → wpAny (model prog w) A c Q' E s₁) ∧
      PySem.W.Looks (model prog w) s₁.heap (isSubtype oe.cls (.type "BaseException")) true ∧ PySem.W.Looks (model prog w) (fromH s₁.heap a x1) (typeOf oe.cls) (.type "type") ∧
      E (.ref a) { s₁ with heap := (fromH s₁.heap a x1).update a (Obj.mapFields (·.setIfInBounds 2 (.ref x1))) }) E s) :
    wpAny (model prog w) A (raiseStmt env (some x) (some c)) Q E s := by
  unfold raiseStmt
  dsimp only
  refine wpAny_bind (wpAny_mono h (fun v s₁ h₁ => ?_) fun _ _ z => z)
  obtain ⟨a, oe, vs, rfl, ha, hd, h1, hi, hne, hot, ⟨cv1, X1⟩, hcs, L1, L3, hE⟩ := h₁
  have XA : ExIn (model prog w) s₁.heap a oe.cls := ExIn.of ha hd L1
  refine wpAny_bind (wpAny_holding (hcs _ (wpAny_bind (wpAny_pure ?_))))
  refine wpAny_bind (wpAny_holding (excFrom_ok XA ?_))
  obtain ⟨o2, g2, c2, dd2, d2⟩ := fromH_at (x1 := x1) ha hd
  have hd3 := Obj.data_mapFields hd (·.setIfInBounds 3 (Value.ref x1))
  have ha3 := Heap.get?_update_self (Obj.mapFields (·.setIfInBounds 3 (Value.ref x1))) ha (Obj.isFreed_of_fields hd3)
  have s4 : 4 < (vs.setIfInBounds 3 (Value.ref x1)).size := by rw [set_size]; exact hi
  have s2 : 2 < ((vs.setIfInBounds 3 (Value.ref x1)).setIfInBounds 4 (Value.bool true)).size := by rw [set_size, set_size]; omega
  have h14 : ((vs.setIfInBounds 3 (Value.ref x1)).setIfInBounds 4 (Value.bool true))[1]? = some Value.none := set_other (by decide) (set_other (by decide) h1)
  have hot4 : HotAt A x1 (fromH s₁.heap a x1) := by
    obtain ⟨q1, o, vs', q2, q3, q4⟩ := hot
    exact ⟨q1, o, vs', by rw [fromH_ne (Ne.symm hne)]; exact q2, q3, q4⟩
  have rest : wpAny (model prog w) A (do
      let b ← isType (.ref a)
      if b = true then do
        let e ← holding [Value.ref a] (raisedFor (.ref a) (.ref a))
        setFlight e none
        raiseNew e
      else do
        let e ← raisedInstance (.ref a)
        setFlight e none
        raiseNew e : Sem Flow) Q E { s₁ with heap := fromH s₁.heap a x1 } := by
    have XB : PySem.W.Looks (model prog w) (fromH s₁.heap a x1) (isType (.ref a)) false := fun A Q E s k q => by
      simp only [isType, loadHead]
      refine wpAny_bind (wpAny_loadPart (k _ _ g2) ?_)
      rw [d2]
      exact wpAny_pure q
    have LT4 : PySem.W.Looks (model prog w) (fromH s₁.heap a x1) (typeOf (.ref a)) oe.cls := fun A Q E s k q => wpAny_typeOf_ref (k _ _ g2) (by rw [c2]; exact q)
    refine wpAny_bind (XB.here ?_)
    simp only [Bool.false_eq_true, if_false]
    unfold raisedInstance
    refine wpAny_bind (wpAny_bind (LT4.here (wpAny_bind (L3.here ?_))))
    rw [if_pos (beq_self_eq_true _)]
    refine wpAny_pure ?_
    unfold setFlight
    refine wpAny_bind (wpAny_bind (wpAny_field g2 d2 h14 ?_))
    rw [if_neg (by decide)]
    exact wpAny_pure (raiseNew_hot hot4 hne g2 d2 s2 hE)
  have hb : (Value.ref x1 == Value.none) = false := rfl
  dsimp only
  rw [if_neg (by rw [hb]; exact Bool.false_ne_true)]
  refine wpAny_bind (wpAny_holding (excFrom_ok X1 ?_))
  refine wpAny_bind (wpAny_setField ha hd (by omega) ?_)
  exact wpAny_bind (wpAny_setField ha3 hd3 s4 rest)
end
/-- the handled exception: pinned, its context None, of a class that is an exception's -/
structure HotP (X : Cx) (p : Addr × Obj) : Prop where
  hot : Hot1 X.A p
  mem : p ∈ X.pn
  rs : Raises X p.2.cls
open HotX in
theorem ps_raiseFB {X : Cx} {W : WX} {e : Expr} {t : L2.St → Hp → XK → Prop} {n : Str} {i : Nat} {np pos : Pos} {p : Addr × Obj} (hp : HotP X p) (tk : Tk bad X W) (he : PMk5 X e t) (hN : X.N[i]? = some n) (hl : X.env.scope.names.lookup n = some .local) (hdb : (n == ("__debug__" : Str)) = false) :
    PS X (.Raise (some e) (some (.Name n np)) pos) (fun _ σ H => t σ H fun cv d H' => bad cv = true ∧ σ[i]? = some (some (.ref p.1)) ∧ W cv d σ H') := by
  refine ⟨fun pins s σ H D I h => ?_⟩
  obtain ⟨⟨hh, v1, e1, c1⟩, hm, rs1⟩ := hp
  show wpAny _ _ (do standAt pos; raiseStmt X.env (some (do let v ← eval e X.env; standAt pos; pure v)) (some (do let v ← eval (.Name n np) X.env; standAt pos; pure v))) _ _ _
  refine wpAny_bind (wpAny_standAt ?_)
  -- the made exception, then the cause
  have key : ∀ s2 : Shared, (∃ (sI : Shared) (H1 : Hp), Inv X pins σ H1 sI ∧ (∀ b o, sI.heap.get? b = some o → s2.heap.get? b = some o)) → σ[i]? = some (some (.ref p.1)) → ∀ Q' : Value → Shared → Prop, Q' (.ref p.1) s2 → wpAny (model X.prog X.w) X.A (do let v ← eval (.Name n np) X.env; standAt pos; pure v) Q' X.xe s2 := by
    rintro s2 ⟨sI, H1, J, k⟩ hs Q' q
    obtain ⟨m, hn, hlk⟩ := J.loc
    obtain ⟨u, ru, lk⟩ := hlk i n _ hN hs (.inl hl)
    obtain rfl : u = Value.ref p.1 := ru
    have hk : X.env.kindOf n = some .local := hl
    rcases lk with ⟨_, hmu⟩ | ⟨hk2 | hk2, _⟩
    · exact wpAny_bind (wpAny_Name (wpAny_loadName_local J.ok.kind hk (hn.keeps k) hmu (wpAny_bind (wpAny_standAt (wpAny_pure q)))) hdb)
    · exact absurd (hk.symm.trans hk2) (by intro z; cases z)
    · exact absurd (hk.symm.trans hk2) (by intro z; cases z)
  refine raise_from (x1 := p.1) (wpAny_bind (wpAny_mono (he pins s σ H _ I h) (fun u s1 hu => wpAny_bind (wpAny_standAt (wpAny_pure ?_))) fun _ _ z => z))
  obtain ⟨⟨a, oe, vs, sI, H1, cv, d, rfl, J, k, n1, ea, hz, hd, h1, nH, os, ag, rs, hb, hs, q⟩, h5⟩ := hu
  have P1 := (J.pin p (List.mem_append_left _ hm)).1
  have P2 := k _ _ P1
  have nap : p.1 ≠ a := fun z => by
    rw [z, n1] at P1
    cases P1
  have k4 : ∀ b u, sI.heap.get? b = some u → (fromH s1.heap a p.1).get? b = some u := fun b u z => by
    have nab : a ≠ b := fun y => by
      rw [← y, n1] at z
      cases z
    rw [fromH_ne nab]
    exact k b u z
  obtain ⟨r1, _⟩ := rs (model X.prog X.w) s1.heap (J.kIn.keeps k)
  obtain ⟨_, r2⟩ := rs (model X.prog X.w) (fromH s1.heap a p.1) (J.kIn.keeps k4)
  obtain ⟨r3, _⟩ := rs1 (model X.prog X.w) s1.heap (J.kIn.keeps k)
  have hi : 4 < vs.size := h5 a oe vs rfl ea hd
  obtain ⟨o2, g2, c2, dd2, d2⟩ := fromH_at (x1 := p.1) ea hd
  refine ⟨a, oe, vs, rfl, ea, hd, h1, hi, nap, ⟨hh, p.2, v1, P2, e1, c1⟩, ⟨_, ExIn.of P2 e1 r3⟩, key _ ⟨sI, H1, J, k⟩ hs, by rw [hz.1]; exact r1, by rw [hz.1]; exact r2, tk _ _ (Air.new J (fun b u z => ?_) n1 (Heap.get?_update_self (Obj.mapFields (·.setIfInBounds 2 (Value.ref p.1))) g2 (Obj.isFreed_of_fields (Obj.data_mapFields d2 _)))
    ⟨(Obj.cls_mapFields ..).trans (c2.trans hz.1), (HandSPX.dict_mapFields ..).trans (dd2.trans hz.2.1), fun z => absurd (hb.symm.trans z) (by decide)⟩ (Obj.data_mapFields d2 _) (set_other (by decide) (set_other (by decide) (set_other (by decide) h1))) nH os ag q)⟩
  have nab : a ≠ b := fun y => by
    rw [← y, n1] at z
    cases z
  show ((fromH s1.heap a p.1).update a (Obj.mapFields (·.setIfInBounds 2 (.ref p.1)))).get? b = some u
  rw [Heap.get?_update_other _ _ nab]
  exact k4 b u z
end Mi
set_option maxHeartbeats 1000000
/-! Na4: an exception in the air, noted; try. -/
namespace Mi
open PySem PySem.Spec PyProof.Rows L2 L2H
variable {bad : Value → Bool}
theorem note_as {env env' : Env} (h : env'.frame = env.frame) (x : Value) : noteFrame x env' = noteFrame x env := by
  have e : PySem.frameOf env' = PySem.frameOf env := by
    unfold PySem.frameOf
    rw [h]
  unfold noteFrame
  rw [h, e]
section
variable {X : Cx} {a : Addr} {cv : Value} {d : Option Addr} {σ : L2.St} {H : Hp} {pins : List (Addr × Obj)} {B : Heap} {sI s' : Shared} {W : WX}
/-- the exception at a stands noted in our frame -/
theorem AirD.note {A : Around} {E : Value → Shared → Prop} {Q : Unit → Shared → Prop} (hfr : A.frames = some (X.env :: X.outer)) (hs : X.stack = X.env :: X.outer) (hf : X.env.frame = some X.env.locals) (D : AirD bad X a cv d σ H pins B sI s')
    (h : ∀ h2, HandSPX.HeldZ B (X.env :: X.outer) a (Zb bad cv d) X.env.locals h2 → s'.heap.UpToSlots h2 → Q () { s' with heap := h2 }) : wpAny (model X.prog X.w) A (noteFrame (.ref a) X.env) Q E s' := by
  have sky := D.sky _ hf
  rw [hs] at sky
  rcases sky with ⟨hB, hn, hl, oe, vs, he, hz, hd, h1⟩ | fl | hd
  · exact PXN.look_newZ Zb.one hfr hl hf he hB hn hd h1 hz h
  · exact PXN.looks_onZ Zb.one hfr hf fl h
  · exact HandSPX.againZ hf hd.2.2.2 (h _ hd (Heap.UpToSlots.refl _))
theorem AirD.held {h2 : Heap} (hs : X.stack = X.env :: X.outer) (hf : X.env.frame = some X.env.locals) (D : AirD bad X a cv d σ H pins B sI s') (hh : HandSPX.HeldZ B (X.env :: X.outer) a (Zb bad cv d) X.env.locals h2) (up : s'.heap.UpToSlots h2) : AirD bad X a cv d σ H pins B sI { s' with heap := h2 } :=
  ⟨D.inv, D.grd, D.up.trans up, fun L hL => .inr (.inr (by rw [hs, show L = X.env.locals from Option.some.inj (hL.symm.trans hf)]; exact hh)), D.free, D.os, D.bare⟩
theorem AirD.taken (tk : Tk bad X W) (D : AirD bad X a cv d σ H pins B sI s') (w : W cv d σ H) : X.xe (.ref a) s' := tk _ _ ⟨a, cv, d, σ, H, pins, B, sI, rfl, D, w⟩
/-- the flight is set to our frame -/
theorem held_flight {s2 : Shared} {A : Around} {E : Value → Shared → Prop} {Q : Unit → Shared → Prop} {l : List Env} {L : Addr} {Z : Obj → Prop} (hh : HandSPX.HeldZ B l a Z L s2.heap)
    (h : ∀ h3, HandSPX.HeldZ B l a Z L h3 → s2.heap.UpToSlots h3 → Q () { s2 with heap := h3 }) {M : Model} : wpAny M A (setFlight (.ref a) (some L)) Q E s2 :=
  HandSPX.setFlight_anyZ hh.1 hh.2.2.1 hh.2.2.2 fun h3 k1 k2 k3 k4 => h h3 ⟨k1, hh.2.1, k2, k3⟩ k4
theorem held_tb {h2 : Heap} {l : List Env} {L : Addr} {Z : Obj → Prop} (hh : HandSPX.HeldZ B l a Z L h2) : ∃ oe vs T, h2.get? a = some oe ∧ Z oe ∧ oe.data = .fields vs ∧ vs[1]? = some (.ref T) := by
  obtain ⟨_, _, _, oe, vs, T, oT, ts, he, hz, hd, h1, _⟩ := hh
  exact ⟨oe, vs, T, he, hz, hd, h1⟩
/-- it passes our own activation -/
theorem AirD.came {env' : Env} {hd : Option Value} (tk : Tk bad X W) (hs : X.stack = X.env :: X.outer) (hf : X.env.frame = some X.env.locals) (he : env'.frame = X.env.frame) (D : AirD bad X a cv d σ H pins B sI s') (w : W cv d σ H) :
    notedBy (model X.prog X.w) (X.A.mark hd) env' (cameBackBy (model X.prog X.w) X.A env' X.xe) (.ref a) s' := by
  have fr : X.A.frames = some (X.env :: X.outer) := D.inv.ok.frames.trans (by rw [hs])
  unfold notedBy
  rw [note_as he]
  refine D.note (A := X.A.mark hd) fr hs hf fun h2 hh up => ?_
  obtain ⟨oe, vs, T, e1, _, e2, e3⟩ := held_tb hh
  unfold cameBackBy
  refine wpAny_bind (wpAny_field e1 e2 e3 ?_)
  rw [if_neg (show ¬ ((Value.ref T == Value.none) = true) from by simp)]
  rw [he, hf]
  have fin : wpAny (model X.prog X.w) X.A (setFlight (.ref a) (some X.env.locals)) (fun _ s'' => X.xe (.ref a) s'') X.xe { s' with heap := h2 } :=
    held_flight (s2 := { s' with heap := h2 }) hh fun h3 hh3 up3 => (D.held hs hf hh3 (up.trans up3)).taken tk w
  first
    | exact fin
    | exact wpAny_bind (wpAny_pure fin)
/-- it is passed on -/
theorem AirD.pass {α : Type} {env' : Env} {A : Around} {what : String} {Q : α → Shared → Prop} {E : Value → Shared → Prop} {h2 : Heap} (hs : X.stack = X.env :: X.outer) (hf : X.env.frame = some X.env.locals) (he : env'.frame = X.env.frame) (D : AirD bad X a cv d σ H pins B sI { s' with heap := h2 })
    (hh : HandSPX.HeldZ B (X.env :: X.outer) a (Zb bad cv d) X.env.locals h2) (h : ∀ s3, AirD bad X a cv d σ H pins B sI s3 → E (.ref a) s3) : wpAny (model X.prog X.w) A (passOn what (.ref a) env' : Sem α) Q E { s' with heap := h2 } := by
  obtain ⟨oe, vs, T, e1, _, e2, e3⟩ := held_tb hh
  unfold PySem.passOn
  refine wpAny_bind (wpAny_field e1 e2 e3 ?_)
  rw [if_neg (show ¬ ((Value.ref T == Value.none) = true) from by simp)]
  rw [he, hf]
  have fin : wpAny (model X.prog X.w) A (setFlight (.ref a) (some X.env.locals)) (fun _ s4 => wpAny (model X.prog X.w) A (throw (.ref a) : Sem α) Q E s4) E { s' with heap := h2 } :=
    held_flight (s2 := { s' with heap := h2 }) hh fun h3 hh3 up3 => wpAny_throw (h _ (D.held hs hf hh3 up3))
  first
    | exact wpAny_bind fin
    | exact wpAny_bind (wpAny_pure (wpAny_bind fin))
/-- the except clause's name has gone -/
theorem inv_gone {i : Nat} {n : Str} {s : Shared} {m : Str → Option Value} {v : Option Value} {h2 : Heap} {tk : Nat} (I : Inv X pins σ H s) (hN : X.N.Nodup) (hi : X.N[i]? = some n) (hlk : ∀ (i : Nat) (x : Str) (v : V), X.N[i]? = some x → σ[i]? = some (some v) → Vis X.env.scope x → ∃ u, L2.RelV v u ∧ Look X.env s.heap m x u)
    (hn2 : h2.Ns X.env.locals (fun x => if x = n then v else m x)) (hs2 : Heap.SameBut X.env.locals s.heap h2) : Inv X pins (σ.set i none) H { s with heap := h2, toks := tk } := by
  have old : ∀ b o, X.s_0.heap.get? b = some o → h2.get? b = s.heap.get? b := fun b o e => hs2.2 b fun z => by
    have := Nat.lt_of_lt_of_le (Heap.lt_size e) I.ok.above
    rw [z] at this
    exact absurd this (Nat.lt_irrefl _)
  have base : Un X.fs X.ex X.H_0 H X.s_0.heap h2 := {
    keep := fun b o e n hb hx => (old b o e).trans (I.base.keep b o e n hb hx)
    slot := fun b o e n hb hx => (I.base.slot b o e n hb hx).imp fun sl q => (old b o e).trans q
    free := I.base.free
    there := fun b o e hx => (I.base.there b o e hx).imp fun o2 q => (old b o e).trans q
    tups := I.base.tups
    frzs := I.base.frzs
    tbls := I.base.tbls }
  refine ⟨I.ok, I.os, I.bare, base, ⟨_, hn2, fun j y w e1 e2 e3 => ?_⟩, fun y c e => ?_, I.free, I.freeC, fun p hp => ?_, fun b ob e => ?_, by simpa using I.len⟩
  · by_cases hj : j = i
    · subst hj
      exfalso
      by_cases hlt : j < σ.length
      · rw [List.getElem?_set_self hlt] at e2
        cases e2
      · rw [List.getElem?_eq_none (by simpa using hlt)] at e2
        cases e2
    · rw [List.getElem?_set_ne (Ne.symm hj)] at e2
      obtain ⟨u, r, q⟩ := hlk j y w e1 e2 e3
      have ny : y ≠ n := fun z => hj (nodup_ix hN e1 (by rw [z]; exact hi))
      refine ⟨u, r, q.imp (fun q => ⟨q.1, (if_neg ny).trans q.2⟩) fun q => ?_⟩
      obtain ⟨k, c, e, z⟩ := q
      exact ⟨k, c, e, z.sameBut hs2 (I.cne y c e)⟩
  · obtain ⟨w, z⟩ := I.cell y c e
    exact ⟨w, z.sameBut hs2 (I.cne y c e)⟩
  · obtain ⟨e, n, ne, nf, dd⟩ := I.pin p hp
    exact ⟨(hs2.2 p.1 ne).trans e, n, ne, nf, dd⟩
  · refine (I.hok b ob e).stay (fun c w hc q => (hs2.2 c fun z => ?_).trans q) (fun _ q => q) fun _ _ q => q
    rcases hc with hc | hc
    · rw [← hc, z, I.free] at e
      cases e
    · rw [z, I.free] at hc
      cases hc
theorem goneB {A : Around} {E : Value → Shared → Prop} {i : Nat} {n : Str} {pos : Pos} {s : Shared} {Q : Unit → Shared → Prop} (I : Inv X pins σ H s) (hN : X.N.Nodup) (hi : X.N[i]? = some n) (hl : X.env.kindOf n = some .local)
    (h : ∀ s2, Inv X pins (σ.set i none) H s2 → Q () s2) :
    wpAny (model X.prog X.w) A (do bindName X.env n .none; unbindBehindTheSuite X.env n pos) Q E s := by
  obtain ⟨m, hn, hlk⟩ := id I.loc
  have hcls : (X.env.scope.kind == .class || (X.env.scope.kind == .module && X.env.locals != X.env.globals)) = false := by rw [I.ok.kind]; rfl
  exact wpAny_nameGoes_keeps hl hn hcls fun h2 v hn2 hs2 => h _ (inv_gone I hN hi hlk hn2 hs2)
theorem funs_keep {h h' base : Heap} (k : ∀ b o, h.get? b = some o → (∀ vs, o.data ≠ .fields vs) → ∃ o', h'.get? b = some o' ∧ ∀ vs, o'.data ≠ .fields vs) : ∀ {l : List Env}, h.FunFrames base l → h'.FunFrames base l
  | [], _ => trivial
  | e :: l, ⟨hk, ⟨L, o, hf, hb, ho, nf⟩, hr⟩ => by
    obtain ⟨o', e1, e2⟩ := k L o ho nf
    exact ⟨hk, ⟨L, o', hf, hb, e1, e2⟩, funs_keep k hr⟩
/-- what is held over our frame is held when the frame's own dict has changed -/
theorem held_same {h2 h3 : Heap} {Z : Obj → Prop} (hf : X.env.frame = some X.env.locals) (hh : HandSPX.HeldZ B (X.env :: X.outer) a Z X.env.locals h2) (sb : Heap.SameBut X.env.locals h2 h3) (hn : ∃ m, h3.Ns X.env.locals m) : HandSPX.HeldZ B (X.env :: X.outer) a Z X.env.locals h3 := by
  obtain ⟨k1, k2, k3, oe, vs, T, oT, ts, he, hz, hd, h1, hnT, hTe, hT, hdT, h4⟩ := hh
  obtain ⟨hkind, ⟨L, o, hfr, hBL, ho, hnf⟩, rest⟩ := k3
  have eL : L = X.env.locals := Option.some.inj (hfr.symm.trans hf)
  subst eL
  have nL : ∀ b o2, B.get? b = some o2 → b ≠ X.env.locals := fun b o2 e z => by
    rw [z, hBL] at e
    cases e
  have nrec : ∀ {b : Addr} {ob : Obj} {vs : Array Value}, h2.get? b = some ob → ob.data = .fields vs → b ≠ X.env.locals := fun {b ob vs} e dd z => by
    rw [z, ho] at e
    cases e
    exact hnf _ dd
  obtain ⟨m, o3, es, ep, ho3, hd3, _⟩ := hn
  refine ⟨fun b o2 e => (sb.2 b (nL b o2 e)).trans (k1 b o2 e), k2, ⟨hkind, ⟨_, o3, hfr, hBL, ho3, fun vs z => by rw [hd3] at z; cases z⟩, ?_⟩, oe, vs, T, oT, ts, (sb.2 a (nrec he hd)).trans he, hz, hd, h1, hnT, hTe, (sb.2 T (nrec hT hdT)).trans hT, hdT, h4⟩
  refine funs_keep (fun b ob e nf2 => ?_) rest
  by_cases hb : b = X.env.locals
  · subst hb
    exact ⟨o3, ho3, fun vs z => by rw [hd3] at z; cases z⟩
  · exact ⟨ob, (sb.2 b hb).trans e, nf2⟩
/-- the state without what flies -/
theorem AirD.low (hs : X.stack = X.env :: X.outer) {h2 : Heap} (D : AirD bad X a cv d σ H pins B sI s') (hh : HandSPX.HeldZ B (X.env :: X.outer) a (Zb bad cv d) X.env.locals h2) (up : s'.heap.UpToSlots h2) :
    ∃ G : Heap, Inv X pins σ H { sI with heap := G, gens := s'.gens, drawn := s'.drawn, toks := s'.toks } ∧ (∀ b o, G.get? b = some o → h2.get? b = some o) ∧ (∀ b o, G.get? b = some o → b ∉ frs X.stack → B.get? b = some o) ∧ (∀ b, b ∈ frs X.stack → G.get? b = h2.get? b) ∧ (∀ b, B.get? b = none → b ∉ frs X.stack → G.get? b = none) := by
  let keepB : Addr → Bool := fun b => (B.get? b).isSome || decide (b ∈ frs X.stack)
  obtain ⟨G, gIn, gOut⟩ := restrict h2 keepB
  have ofB : ∀ b o, B.get? b = some o → G.get? b = some o := fun b o e => (gIn b (by simp [keepB, e])).trans (hh.1 b o e)
  have ofF : ∀ b, b ∈ frs X.stack → G.get? b = h2.get? b := fun b hb => gIn b (by simp [keepB, hb])
  have inG : ∀ b o, G.get? b = some o → h2.get? b = some o ∧ keepB b = true := fun b o e => by
    by_cases hq : keepB b = true
    · exact ⟨(gIn b hq).symm.trans e, hq⟩
    · have := gOut b (by simpa using hq)
      rw [e] at this
      exact nomatch this
  have I := D.inv
  have fs : ∀ b o, sI.heap.get? b = some o → b ∈ frs X.stack → ∃ sl, G.get? b = some { o with slots := sl } := fun b o e hb => by
    obtain ⟨_, o1, e1, nf⟩ := I.stack.mem hb
    cases e.symm.trans e1
    obtain ⟨s1, q1⟩ := D.up b _ e nf
    obtain ⟨s2, q2⟩ := up b _ q1 nf
    exact ⟨s2, (ofF b hb).trans q2⟩
  have U : Un (frs X.stack) [] H H sI.heap G := {
    keep := fun b o e n hb _ => ofB b o (D.grd b o e hb)
    slot := fun b o e n hb _ => fs b o e hb
    free := fun b o e n _ => n
    there := fun b o e _ => by
      by_cases hb : b ∈ frs X.stack
      · obtain ⟨sl, q⟩ := fs b o e hb
        exact ⟨_, q⟩
      · exact ⟨o, ofB b o (D.grd b o e hb)⟩
    tups := fun _ _ q => q
    frzs := fun _ _ _ q => q
    tbls := fun _ _ q => ⟨#[], by rw [q]; simp⟩ }
  refine ⟨G, I.call (ch := []) U ((I.inGround D.grd).kept ofB) D.bare (fun _ z => nomatch z), fun b o e => (inG b o e).1, fun b o e hb => ?_, ofF, fun b h1 h2 => gOut b (by simp [keepB, h1, h2])⟩
  obtain ⟨e1, hk⟩ := inG b o e
  have : (B.get? b).isSome = true := by simpa [keepB, hb] using hk
  obtain ⟨o2, q⟩ := Option.isSome_iff_exists.mp this
  cases (hh.1 b o2 q).symm.trans e1
  exact q
/-- it leaves an except suite that has a name -/
theorem AirD.asCame {i : Nat} {n : Str} {pos : Pos} {hd : Option Value} (tk : Tk bad X W) (hs : X.stack = X.env :: X.outer) (hf : X.env.frame = some X.env.locals) (hN : X.N.Nodup) (hi : X.N[i]? = some n) (hl : X.env.kindOf n = some .local) (D : AirD bad X a cv d σ H pins B sI s') (w : W cv d (σ.set i none) H) :
    wpAny (model X.prog X.w) (X.A.mark hd) (noteFrame (.ref a) X.env) (fun _ s3 => wpAny (model X.prog X.w) (X.A.mark hd) (do bindName X.env n .none; unbindBehindTheSuite X.env n pos)
      (fun _ s4 => wpAny (model X.prog X.w) (X.A.mark hd) (passOn "try.except-as" (.ref a) X.env : Sem Flow) (fun _ _ => False) (notedBy (model X.prog X.w) (X.A.mark hd) X.env (cameBackBy (model X.prog X.w) X.A X.env X.xe)) s4)
      (fun y s4 => wpAny (model X.prog X.w) (X.A.mark hd) (setFlight (.ref a) none) (fun _ s5 => (notedBy (model X.prog X.w) (X.A.mark hd) X.env (cameBackBy (model X.prog X.w) X.A X.env X.xe)) y s5) (notedBy (model X.prog X.w) (X.A.mark hd) X.env (cameBackBy (model X.prog X.w) X.A X.env X.xe)) s4) s3) (notedBy (model X.prog X.w) (X.A.mark hd) X.env (cameBackBy (model X.prog X.w) X.A X.env X.xe)) s' := by
  have fr : X.A.frames = some (X.env :: X.outer) := D.inv.ok.frames.trans (by rw [hs])
  refine D.note (A := X.A.mark hd) fr hs hf fun h2 hh up => ?_
  obtain ⟨G, J, gUp, gB, gF, gN⟩ := D.low hs hh up
  obtain ⟨m, hn, hlk⟩ := id J.loc
  have hn' : h2.Ns X.env.locals m := hn.keeps gUp
  have hcls : (X.env.scope.kind == .class || (X.env.scope.kind == .module && X.env.locals != X.env.globals)) = false := by rw [D.inv.ok.kind]; rfl
  have mL : X.env.locals ∈ frs X.stack := by
    rw [hs]
    exact List.mem_filterMap.mpr ⟨X.env, List.mem_cons_self, hf⟩
  refine wpAny_nameGoes_keeps hl hn' hcls fun h3 v hn3 hs3 => ?_
  have hh3 := held_same hf hh hs3 ⟨_, hn3⟩
  obtain ⟨oL, esL, epL, eL, rL⟩ := id hn3
  obtain ⟨oG, eG⟩ : ∃ o, G.get? X.env.locals = some o := by
    obtain ⟨o, _, _, e, _⟩ := hn
    exact ⟨o, e⟩
  have nfr : oL.isFreed = false := (Heap.get?_some_iff.mp eL).2
  have g2 : (G.update X.env.locals fun _ => oL).get? X.env.locals = some oL := Heap.get?_update_self (fun _ => oL) eG nfr
  have sb : Heap.SameBut X.env.locals G (G.update X.env.locals fun _ => oL) := Heap.SameBut.update ..
  have J2 := inv_gone (tk := s'.toks + 1) J hN hi hlk ⟨oL, esL, epL, g2, rL⟩ sb
  have D4 : AirD bad X a cv d (σ.set i none) H pins B { sI with heap := G.update X.env.locals fun _ => oL, gens := s'.gens, drawn := s'.drawn, toks := s'.toks + 1 } { s' with heap := h3, toks := s'.toks + 1 } :=
    ⟨J2, fun b o e hb => gB b o ((sb.2 b fun z => hb (by rw [z]; exact mL)).symm.trans e) hb, fun b o e nf => by
      by_cases hb : b = X.env.locals
      · rw [hb, g2] at e
        cases e
        exact ⟨oL.slots, by rw [hb]; exact eL⟩
      · exact ⟨o.slots, (hs3.2 b hb).trans (gUp b o ((sb.2 b hb).symm.trans e))⟩, fun L hL => .inr (.inr (by rw [hs, show L = X.env.locals from Option.some.inj (hL.symm.trans hf)]; exact hh3)), D.free, D.os, D.bare⟩
  exact AirD.pass (s' := { s' with toks := s'.toks + 1 }) (h2 := h3) hs hf rfl D4 hh3 fun s5 D5 => D5.came tk hs hf rfl w
end
end Mi
set_option maxHeartbeats 2000000
/-! Na5: try .. except .. else: clauses with or without a name; what a suite raises goes out. -/
namespace Mi
open PySem PySem.Spec PyProof.Rows L2 L2H
variable {bad : Value → Bool}
/-- the context of an except suite: a is handled -/
abbrev suiteB (X : Cx) (a : Addr) (pn : List (Addr × Obj)) (xe : Value → Shared → Prop) : Cx := { X with A := X.A.mark (some (.ref a)), calm := false, pn := pn, xe := xe }
/-- what a suite's end is behind the name's going -/
def gone (D : Ends) (i : Nat) : Ends := { nx := fun σ H => D.nx (σ.set i none) H, rt := D.rt, bk := fun σ H => D.bk (σ.set i none) H, ct := fun σ H => D.ct (σ.set i none) H }
def goneW (W : WX) : Option Nat → WX
  | none => W
  | some i => fun cv d σ H => W cv d (σ.set i none) H
structure Cl where
  c : Value
  nm : Option Nat
  ts : Addr → Value → Option Addr → TS
def wCls (K : PySem.W.Frag) (Wout : WX) (D : Ends) : List Cl → WX
  | [] => Wout
  | q :: r => fun cv d σ H => ∃ b, PySem.W.exmOne K cv q.c = some b ∧ (b = true → ∀ a, H a = none → match q.nm with
    | none => q.ts a cv d D σ H
    | some i => q.ts a cv d (gone D i) (σ.set i (some (.ref a))) H) ∧ (b = false → wCls K Wout D r cv d σ H)
/-- a suite keeps to its reading -/
def SuiteOk (bad : Value → Bool) (X : Cx) (W : WX) (st : List Stmt) (ts : Addr → Value → Option Addr → TS) : Prop :=
  ∀ (a : Addr) (oe : Obj) (cv : Value) (d : Option Addr) (pn : List (Addr × Obj)) (xe : Value → Shared → Prop), (∀ p ∈ X.pn, p ∈ pn) → Zb bad cv d oe → (∃ vs, oe.data = .fields vs) → Tk bad (suiteB X a ((a, oe) :: pn) xe) W → PassesOwn (model X.prog X.w) (X.A.mark (some (.ref a))) X.env xe →
    PSs (suiteB X a ((a, oe) :: pn) xe) st (ts a cv d)
inductive ClsOk (bad : Value → Bool) (X : Cx) (W : WX) : List ExceptHandler → List Cl → Prop
  | nil : ClsOk bad X W [] []
  | only {x : Str} {c : Value} {b₀ : Stmt} {st : List Stmt} {np p2 : Pos} {hs : List ExceptHandler} {l : List Cl} {ts : Addr → Value → Option Addr → TS} (hc : Names X x c) (h : SuiteOk bad X W (b₀ :: st) ts) (r : ClsOk bad X W hs l) :
      ClsOk bad X W (.ExceptHandler (some (.Name x np)) none (b₀ :: st) p2 :: hs) (⟨c, none, ts⟩ :: l)
  | as_ {x n : Str} {i : Nat} {c : Value} {b₀ : Stmt} {st : List Stmt} {np p2 : Pos} {hs : List ExceptHandler} {l : List Cl} {ts : Addr → Value → Option Addr → TS} (hc : Names X x c) (hi : X.N[i]? = some n) (hl : X.env.kindOf n = some .local) (h : SuiteOk bad X (goneW W (some i)) (b₀ :: st) ts) (r : ClsOk bad X W hs l) :
      ClsOk bad X W (.ExceptHandler (some (.Name x np)) (some n) (b₀ :: st) p2 :: hs) (⟨c, some i, ts⟩ :: l)
section
variable {X : Cx} {pins : List (Addr × Obj)} {σ : L2.St} {H : Hp} {s : Shared} {W : WX}
theorem inv_suiteB {a : Addr} {oe : Obj} {vs : Array Value} {xe : Value → Shared → Prop} (I : Inv X pins σ H s) (ha : s.heap.get? a = some oe) (hd : oe.data = .fields vs) (na : H a = none) (nL : a ≠ X.env.locals) (nF : a ∉ X.fs) :
    Inv (suiteB X a ((a, oe) :: (X.pn ++ pins)) xe) [] σ H s :=
  Inv.unwish (X := suiteB X a ((a, oe) :: (X.pn ++ pins)) xe) (E := fun _ _ => False) (I.suite ha hd na nL nF)
theorem inv_unsuiteB {a : Addr} {q : Addr × Obj} {pn' : List (Addr × Obj)} {xe : Value → Shared → Prop} (I : Inv (suiteB X a (q :: (X.pn ++ pins)) xe) pn' σ H s) (ok : X.Ok) : Inv X pins σ H s :=
  Inv.unsuite (X := X) (a := a) (q := q) (pn' := pn') (I.wish fun _ _ => False) ok
/-- in a context that wishes what flies, it passes the own activation -/
theorem passes_air (Y : Cx) (hs : Y.stack = Y.env :: Y.outer) (hf : Y.env.frame = some Y.env.locals) (hd : Option Value) (hm : Y.A.mark hd = Y.A) (tk : Tk bad Y W) (ha : ∀ u s', Y.xe u s' → Air bad Y W u s') : PassesOwn (model Y.prog Y.w) Y.A Y.env Y.xe := fun u s' x => by
  obtain ⟨a, cv, d, σ, H, pins, B, sI, rfl, D, w⟩ := ha u s' x
  have := D.came (hd := hd) (env' := Y.env) tk hs hf rfl w
  rw [hm] at this
  exact this
end
/-- what flies stands apart from the frames -/
theorem fly_facts {X : Cx} {B h : Heap} {a : Addr} {cv : Value} {d : Option Addr} (hs : X.stack = X.env :: X.outer) (hf : X.env.frame = some X.env.locals) (fl : HandSPX.FlyingZ B (X.env :: X.outer) a (Zb bad cv d) h) :
    ∃ oe vs, h.get? a = some oe ∧ Zb bad cv d oe ∧ oe.data = .fields vs ∧ a ≠ X.env.locals ∧ a ∉ X.fs := by
  obtain ⟨oe, vs, he, hz, hd⟩ := fl.there
  have nfr : a ∉ frs (X.env :: X.outer) := fun hm => by
    obtain ⟨_, o2, e2, nf⟩ := fl.2.2.1.mem hm
    cases he.symm.trans e2
    exact nf _ hd
  refine ⟨oe, vs, he, hz, hd, fun z => nfr (List.mem_filterMap.mpr ⟨X.env, List.mem_cons_self, by rw [hf, z]⟩), fun hm => nfr ?_⟩
  obtain ⟨e, h1, h2⟩ := List.mem_filterMap.mp hm
  exact List.mem_filterMap.mpr ⟨e, List.mem_cons_of_mem _ h1, h2⟩
/-- the wish of a suite about what flies out of it -/
abbrev xeS (bad : Value → Bool) (X : Cx) (a : Addr) (pn : List (Addr × Obj)) (W : WX) : Value → Shared → Prop := Air bad (suiteB X a pn fun _ _ => False) W
theorem tkS {X : Cx} {a : Addr} {pn : List (Addr × Obj)} {W : WX} : Tk bad (suiteB X a pn (xeS bad X a pn W)) W := fun u s1 z => by
  obtain ⟨b, cv, d, σ1, H1, pn1, B, sI, e, D, w⟩ := z
  exact ⟨b, cv, d, σ1, H1, pn1, B, sI, e, ⟨D.inv.wish _, D.grd, D.up, D.sky, D.free, D.os, D.bare⟩, w⟩
theorem passS {X : Cx} {a : Addr} {pn : List (Addr × Obj)} {W : WX} (hs : X.stack = X.env :: X.outer) (hf : X.env.frame = some X.env.locals) : PassesOwn (model X.prog X.w) (X.A.mark (some (.ref a))) X.env (xeS bad X a pn W) :=
  passes_air (suiteB X a pn (xeS bad X a pn W)) hs hf none rfl tkS fun u s1 z => by
    obtain ⟨b, cv, d, σ1, H1, pn1, B, sI, e, D, w⟩ := z
    exact ⟨b, cv, d, σ1, H1, pn1, B, sI, e, ⟨Inv.unwish (X := suiteB X a pn (xeS bad X a pn W)) (E := fun _ _ => False) D.inv, D.grd, D.up, D.sky, D.free, D.os, D.bare⟩, w⟩
theorem sp_ofS {X : Cx} {pins : List (Addr × Obj)} {a : Addr} {q : Addr × Obj} {xe : Value → Shared → Prop} {D : Ends} {f : Flow} {s : Shared} (ok : X.Ok) (h : SP (suiteB X a (q :: (X.pn ++ pins)) xe) [] D f s) : SP X pins D f s := by
  cases f with
  | next => obtain ⟨σ', H', S, q⟩ := h; exact ⟨σ', H', inv_unsuiteB S ok, q⟩
  | brk => obtain ⟨σ', H', S, q⟩ := h; exact ⟨σ', H', inv_unsuiteB S ok, q⟩
  | cont => obtain ⟨σ', H', S, q⟩ := h; exact ⟨σ', H', inv_unsuiteB S ok, q⟩
  | ret u => obtain ⟨v, σ', H', S, r, q⟩ := h; exact ⟨v, σ', H', inv_unsuiteB S ok, r, q⟩
section
variable {X : Cx} {body orelse : List Stmt} {h₀ : ExceptHandler} {hds : List ExceptHandler} {l : List Cl} {pos : Pos} {tb : WX → TS} {u : TS} {Wout : WX}
theorem ps_tryB (ho : PSs X orelse u) (hs : X.stack = X.env :: X.outer) (hf : X.env.frame = some X.env.locals) (hN : X.N.Nodup) (tk : Tk bad X Wout)
    (hb : ∀ (W : WX) (pn : List (Addr × Obj)) (xe : Value → Shared → Prop), (∀ p ∈ X.pn, p ∈ pn) → Tk bad (X.tr pn xe) W → PassesOwn (model X.prog X.w) X.A X.env xe → PSs (X.tr pn xe) body (tb W))
    (hcl : ClsOk bad X Wout (h₀ :: hds) l) : PS X (.Try body (h₀ :: hds) orelse [] pos) (fun D σ H => tb (wCls X.K Wout D l) { D with nx := u D } σ H) := by
  refine ⟨fun pins s σ H D I h => ?_⟩
  have ok := I.ok
  have hfr : X.A.frames = some (X.env :: X.outer) := by rw [ok.frames, hs]
  let W := wCls X.K Wout D l
  let Y : Cx := X.tr (X.pn ++ pins) (fun _ _ => False)
  let xe : Value → Shared → Prop := Air bad Y W
  have toX : ∀ {a cv d σ1 H1 pins1 B sI s1}, AirD bad Y a cv d σ1 H1 pins1 B sI s1 → AirD bad X a cv d σ1 H1 pins B sI s1 := fun D => ⟨D.inv.ofTry ok, D.grd, D.up, D.sky, D.free, D.os, D.bare⟩
  have tkY : Tk bad (X.tr (X.pn ++ pins) xe) W := fun u s1 z => by
    obtain ⟨a, cv, d, σ1, H1, pn1, B, sI, e, D, w⟩ := z
    exact ⟨a, cv, d, σ1, H1, pn1, B, sI, e, ⟨D.inv.wish _, D.grd, D.up, D.sky, D.free, D.os, D.bare⟩, w⟩
  have pass : PassesOwn (model X.prog X.w) X.A X.env xe :=
    passes_air (X.tr (X.pn ++ pins) xe) hs hf none rfl tkY fun u s1 z => by
      obtain ⟨b, cv, d, σ1, H1, pn1, B, sI, e, D, w⟩ := z
      exact ⟨b, cv, d, σ1, H1, pn1, B, sI, e, ⟨Inv.unwish (X := X.tr (X.pn ++ pins) xe) (E := fun _ _ => False) D.inv, D.grd, D.up, D.sky, D.free, D.os, D.bare⟩, w⟩
  refine wpAny_Try_except ?_
  refine wpAny_mono ((hb W (X.pn ++ pins) xe (fun p hp => List.mem_append_left _ hp) tkY pass).run [] s σ H { D with nx := u D } (I.toTry _) h) (fun f s1 hsp => ?_) (fun e s1 he => ?_)
  · cases f with
    | next =>
      obtain ⟨σ', H', J', q⟩ := hsp
      exact ho.run pins s1 σ' H' D (J'.ofTry ok) q
    | brk =>
      obtain ⟨σ', H', J', q⟩ := hsp
      exact ⟨σ', H', J'.ofTry ok, q⟩
    | cont =>
      obtain ⟨σ', H', J', q⟩ := hsp
      exact ⟨σ', H', J'.ofTry ok, q⟩
    | ret u =>
      obtain ⟨v, σ', H', J', r, q⟩ := hsp
      exact ⟨v, σ', H', J'.ofTry ok, r, q⟩
  · obtain ⟨a, cv, d, σ1, H1, pn1, B, sI, rfl, DY, w⟩ := he
    have DX := toX DY
    refine DX.note hfr hs hf fun h2 hh up => HandSPX.landsZ hh fun h3 fl3 up3 => ?_
    have up13 := up.trans up3
    have J3 : Inv X pins σ1 H1 { s1 with heap := h3 } := DX.inv.landed DX.grd fl3.1 (DX.up.trans up13) DX.os DX.bare
    -- the clauses
    have go : ∀ {hs2 : List ExceptHandler} {l2 : List Cl}, ClsOk bad X Wout hs2 l2 → wCls X.K Wout D l2 cv d σ1 H1 → wpAny (model X.prog X.w) X.A (handleBy (.ref a) X.env hs2) (SP X pins D) X.xe { s1 with heap := h3 } := by
      intro hs2 l2 hk
      have test : ∀ {x : Str} {c : Value} {np : Pos} {b : Bool} {Q : Bool → Shared → Prop} {E : Value → Shared → Prop}, Names X x c → PySem.W.exmOne X.K cv c = some b → Q b { s1 with heap := h3 } →
          wpAny (model X.prog X.w) (X.A.mark (some (.ref a))) (eval (.Name x np) X.env) (fun c s2 => wpAny (model X.prog X.w) (X.A.mark (some (.ref a))) (excMatches (.ref a) c) Q E s2) E { s1 with heap := h3 } := by
        intro x c np b Q E hc hb1 q
        obtain ⟨oe, vs, he, hz, hd, nL, nF⟩ := fly_facts hs hf fl3
        have S3 := inv_suiteB (xe := fun _ _ => False) J3 he hd DX.free nL nF
        have LT : PySem.W.Looks (model X.prog X.w) h3 (typeOf (.ref a)) cv := fun A Q E s k q => wpAny_typeOf_ref (k _ _ he) (by rw [hz.1]; exact q)
        have LM := PySem.W.exm_one (M := model X.prog X.w) J3.kIn LT hb1
        obtain ⟨hg, hdb, hm | ⟨hm, hv, hnn⟩⟩ := hc
        · exact ld_glob (X := suiteB X a ((a, oe) :: (X.pn ++ pins)) fun _ _ => False) S3 hg hm (LM.here q) hdb
        · exact ld_blt (X := suiteB X a ((a, oe) :: (X.pn ++ pins)) fun _ _ => False) S3 hg hm hv (LM.here q) hnn hdb
      have again : ∀ {Q : Unit → Shared → Prop} {E : Value → Shared → Prop}, (∀ (h4 : Heap) (oe : Obj), Zb bad cv d oe → (∃ vs, oe.data = .fields vs) → (∀ xe, Inv (suiteB X a ((a, oe) :: (X.pn ++ pins)) xe) [] σ1 H1 { s1 with heap := h4 }) → Q () { s1 with heap := h4 }) →
          wpAny (model X.prog X.w) (X.A.mark (some (.ref a))) (setFlight (.ref a) none) Q E { s1 with heap := h3 } := by
        intro Q E hq
        refine HandSPX.lands_againZ fl3 fun h4 fl4 up4 => ?_
        have J4 : Inv X pins σ1 H1 { s1 with heap := h4 } := DX.inv.landed DX.grd fl4.1 ((DX.up.trans up13).trans up4) DX.os DX.bare
        obtain ⟨oe, vs, he, hz, hd, nL, nF⟩ := fly_facts hs hf fl4
        exact hq h4 oe hz ⟨_, hd⟩ fun xe => inv_suiteB J4 he hd DX.free nL nF
      induction hk with
      | nil =>
        intro w2
        refine wpAny_handleBy_nil ?_
        obtain ⟨k1, k2, k3, oe, vs, T, oT, ts', he, hz, hd, h1, hr⟩ := id fl3
        unfold PySem.passOn
        refine wpAny_bind (wpAny_field he hd h1 ?_)
        rw [if_neg (show ¬ ((Value.ref T == Value.none) = true) from by simp), hf]
        have fin : wpAny (model X.prog X.w) X.A (setFlight (.ref a) (some X.env.locals)) (fun _ s4 => wpAny (model X.prog X.w) X.A (throw (.ref a) : Sem Flow) (SP X pins D) X.xe s4) X.xe { s1 with heap := h3 } :=
          HandSPX.setFlight_upZ fl3 fun h4 hh4 up4 => wpAny_throw ((DX.held hs hf hh4 (up13.trans up4)).taken tk w2)
        first
          | exact wpAny_bind fin
          | exact wpAny_bind (wpAny_pure (wpAny_bind fin))
      | only hc hsu r ih =>
        rintro ⟨b, hb1, hyes, hno⟩
        refine wpAny_handleBy_cons (codeAny_handlers_test (test hc hb1 ?_)) (by intro q; cases q)
        cases b with
        | false => exact ih (hno rfl)
        | true =>
          refine codeAny_handlers_suite (again fun h4 oe hz hd S4 => ?_)
          refine wpAny_mono ((hsu a oe cv d (X.pn ++ pins) _ (fun p hp => List.mem_append_left _ hp) hz hd tkS (passS hs hf)).run [] _ _ H1 _ (S4 _) (hyes rfl a DX.free)) (fun f s6 hsp => sp_ofS ok hsp) fun e6 s6 z => ?_
          obtain ⟨a6, cv6, d6, σ6, H6, pn6, B6, sI6, rfl, D6, w6⟩ := z
          have DX6 : AirD bad X a6 cv6 d6 σ6 H6 pins B6 sI6 s6 := ⟨inv_unsuiteB (xe := fun _ _ => False) D6.inv ok, D6.grd, D6.up, D6.sky, D6.free, D6.os, D6.bare⟩
          exact DX6.came tk hs hf rfl w6
      | @as_ x n i c b₀ st np p2 hs3 l3 ts hc hi hl hsu r ih =>
        rintro ⟨b, hb1, hyes, hno⟩
        refine wpAny_handleBy_cons (codeAny_handlers_test (test hc hb1 ?_)) (by intro q; cases q)
        cases b with
        | false => exact ih (hno rfl)
        | true =>
          refine codeAny_handlers_suite_as (again fun h4 oe hz hd S4 => ?_)
          refine store_ok (X := suiteB X a ((a, oe) :: (X.pn ++ pins)) (xeS bad X a ((a, oe) :: (X.pn ++ pins)) (goneW Wout (some i)))) (v := .ref a) (S4 _) hN hi (.inl hl) rfl (fun s5 S5 => ?_) (.inr hl)
          refine wpAny_mono ((hsu a oe cv d (X.pn ++ pins) _ (fun p hp => List.mem_append_left _ hp) hz hd tkS (passS hs hf)).run [] s5 _ H1 _ S5 (hyes rfl a DX.free)) (fun f s6 hsp => ?_) fun e6 s6 z => ?_
          · cases f with
            | next =>
              obtain ⟨σ6, H6, S6, q6⟩ := hsp
              exact goneB (inv_unsuiteB S6 ok) hN hi hl fun s7 J7 => ⟨_, _, J7, q6⟩
            | brk =>
              obtain ⟨σ6, H6, S6, q6⟩ := hsp
              exact goneB (inv_unsuiteB S6 ok) hN hi hl fun s7 J7 => ⟨_, _, J7, q6⟩
            | cont =>
              obtain ⟨σ6, H6, S6, q6⟩ := hsp
              exact goneB (inv_unsuiteB S6 ok) hN hi hl fun s7 J7 => ⟨_, _, J7, q6⟩
            | ret u =>
              obtain ⟨v6, σ6, H6, S6, r6, q6⟩ := hsp
              exact goneB (inv_unsuiteB S6 ok) hN hi hl fun s7 J7 => ⟨_, _, _, J7, r6, q6⟩
          · obtain ⟨a6, cv6, d6, σ6, H6, pn6, B6, sI6, rfl, D6, w6⟩ := z
            have DX6 : AirD bad X a6 cv6 d6 σ6 H6 pins B6 sI6 s6 := ⟨inv_unsuiteB (xe := fun _ _ => False) D6.inv ok, D6.grd, D6.up, D6.sky, D6.free, D6.os, D6.bare⟩
            exact DX6.asCame tk hs hf hN hi hl w6
    exact go hcl w
end
end Mi
set_option maxHeartbeats 1000000
/-! Na6: a pinned exception: isinstance, its field. -/
namespace Mi
open PySem PySem.Spec PyProof.Rows L2 L2H
/-- what the class at D must say -/
structure ExcT (K : PySem.W.Frag) (D : Addr) : Prop where
  ga : PySem.W.findIn K (.ref D) "__getattribute__" = some (some (.builtin "BaseException.__getattribute__"))
  gg : PySem.W.findIn K (.ref D) "__getattr__" = some none
  su : PySem.W.subIn K (.ref D) (.type "BaseException") = some true
  hd : PySem.W.hasDictIn K D = true
  ca : PySem.W.findIn K (.ref D) "__class__" = some (some (.builtin "object.__class__"))
  cg : PySem.W.specialIn K (.builtin "object.__class__") "__get__" = some (some (.builtin "getset_descriptor.__get__"))
  tk : PySem.W.takesIn K (.builtin "object.__class__") = some true
  mo : PySem.W.mroIn K D (.type "object") = some true
def excTB (K : PySem.W.Frag) (D : Addr) : Bool :=
  decide (PySem.W.findIn K (.ref D) "__getattribute__" = some (some (.builtin "BaseException.__getattribute__"))) && (decide (PySem.W.findIn K (.ref D) "__getattr__" = some none) && (decide (PySem.W.subIn K (.ref D) (.type "BaseException") = some true) && (PySem.W.hasDictIn K D &&
  (decide (PySem.W.findIn K (.ref D) "__class__" = some (some (.builtin "object.__class__"))) && (decide (PySem.W.specialIn K (.builtin "object.__class__") "__get__" = some (some (.builtin "getset_descriptor.__get__"))) && (decide (PySem.W.takesIn K (.builtin "object.__class__") = some true) && decide (PySem.W.mroIn K D (.type "object") = some true)))))))
theorem excTB_ok {K : PySem.W.Frag} {D : Addr} (h : excTB K D = true) : ExcT K D := by
  unfold excTB at h
  simp only [Bool.and_eq_true, decide_eq_true_eq] at h
  obtain ⟨h1, h2, h3, h4, h5, h6, h7, h8⟩ := h
  exact ⟨h1, h2, h3, h4, h5, h6, h7, h8⟩
theorem ExcT.xf {K : PySem.W.Frag} {D : Addr} (T : ExcT K D) : XfC K D := ⟨T.ga, T.gg, T.su, T.hd⟩
theorem ExcT.cls {K : PySem.W.Frag} {D : Addr} (T : ExcT K D) : (PySem.W.clsIn K D).isSome = true := by
  obtain ⟨cd, hc, _⟩ := PySem.W.any_some T.hd
  rw [hc]
  rfl
/-- an exception at a, of the class at D -/
structure PinX (X : Cx) (a D : Addr) (d : Option Addr) (oe : Obj) : Prop where
  mem : (a, oe) ∈ X.pn
  zc : Zc (.ref D) d oe
  fs : ∃ vs, oe.data = .fields vs
section
variable {X : Cx} {a D : Addr} {d : Option Addr} {oe : Obj} {pins : List (Addr × Obj)} {σ : L2.St} {H : Hp} {s : Shared}
theorem PinX.inst (p : PinX X a D d oe) (I : Inv X pins σ H s) (hd : ∀ dd, d = some dd → ∃ fs, H dd = some (.xd fs)) : ∃ od, PySem.W.InstAt s.heap a oe D od := by
  obtain ⟨hget, _⟩ := I.pin (a, oe) (List.mem_append_left _ p.mem)
  obtain ⟨vs, hv⟩ := p.fs
  cases d with
  | none => exact ⟨none, hget, p.zc.1, by unfold PySem.W.notCls; rw [hv] <;> rfl, by rw [p.zc.2]; trivial⟩
  | some dd =>
    obtain ⟨fs, e⟩ := hd dd rfl
    have hx : ObjOk X.prog X.w H s.heap dd (.xd fs) := I.hok dd _ e
    obtain ⟨mA, hns, hr⟩ := hx
    obtain ⟨od, ho, hl⟩ := lookIn_ns hns
    exact ⟨some od, hget, p.zc.1, by unfold PySem.W.notCls; rw [hv] <;> rfl, by rw [p.zc.2]; exact ho⟩
/-- isinstance(e, C), isinstance(e, (C, ..)) -/
def rIsB (K : PySem.W.Frag) (D a : Addr) (d : Option Addr) : List V → Hp → VK → Prop := fun xs H Q => (∀ dd, d = some dd → ∃ fs, H dd = some (.xd fs)) ∧ ∃ (c : V) (b : Bool), xs = [.ref a, c] ∧
  ((∃ cv, (∀ u, L2.RelV c u → u = cv) ∧ PySem.W.kitOne K (.ref D) cv = some b) ∨ (∃ t cs, c = .ref t ∧ H t = some (.tup cs) ∧ ∀ us, Vals cs us → PySem.W.kitAny K (.ref D) us = some b)) ∧ Q (.bl b) H
theorem call_isB (T : ExcT X.K D) (p : PinX X a D d oe) : CallR X (.builtin "isinstance") (rIsB X.K D a d) := by
  rintro pins s σ H xs us Q I r ⟨hd, c, b, rfl, hk, q⟩
  obtain ⟨od, J⟩ := p.inst I hd
  cases r with
  | cons rx rr =>
    cases rr with
    | cons rt rr =>
      cases rr
      cases rx
      have Z := PySem.W.kitx_exc (K := X.K) (C := D) (x := a) (ox := oe) (od := od) T.cls T.ga T.gg T.su T.ca T.cg T.tk T.mo
      rcases hk with ⟨cv, hcv, e⟩ | ⟨t, cs, rfl, et, e⟩
      · have ec := hcv _ rt
        subst ec
        exact PySem.W.kia_one Z I.kIn J e (fun z => nomatch z) fun tk => ⟨.bl b, H, I.tok tk, rfl, q⟩
      · cases rt
        obtain ⟨_, its, rv, o, h1, h2, n, h3⟩ := (show ObjOk X.prog X.w H s.heap t (.tup cs) from I.hok t _ et)
        obtain ⟨oc, od2, dat, sl⟩ := o
        dsimp only at h2 h3
        subst h2 h3
        exact PySem.W.kia_tup Z I.kIn J h1 (e its rv) (fun z => nomatch z) fun tk => ⟨.bl b, H, I.tok tk, rfl, q⟩
/-- e.f -/
theorem pe_xfB {e : Expr} {te : TE} {pos : Pos} {n : Str} (T : ExcT X.K D) (p : PinX X a D d oe) (hno : PySem.W.findIn X.K (.ref D) n = some none) (he : PE X e te) (hb : attributeBase e n X.env (eval e X.env) = eval e X.env) :
    PE X (.Attribute e n pos) (fun σ H Q => te σ H fun x H1 => x = .ref a ∧ ∃ (dd : Addr) (fs : List (Str × V)) (v : V), d = some dd ∧ H1 dd = some (.xd fs) ∧ fs.lookup n = some v ∧ Q v H1) := by
  refine ⟨fun pins s σ H Q I h => attr_of hb (thn (he.run pins s σ H _ I h) ?_)⟩
  rintro u s1 ⟨x, H1, I1, rx, rfl, dd, fs, v, ed, ea, l, q⟩
  obtain rfl : u = Value.ref a := rx
  subst ed
  obtain ⟨hget, _⟩ := I1.pin (a, oe) (List.mem_append_left _ p.mem)
  obtain ⟨vs, hv⟩ := p.fs
  have hx : ObjOk X.prog X.w H1 s1.heap dd (.xd fs) := I1.hok dd _ ea
  obtain ⟨mA, hns, hr⟩ := hx
  obtain ⟨od, ho, hl⟩ := lookIn_ns hns
  obtain ⟨w, hw, rw'⟩ := RelO.some_of (v := v) (o := mA n) (by rw [← l]; exact hr n)
  have J : PySem.W.InstAt s1.heap a oe D (some od) := ⟨hget, p.zc.1, by unfold PySem.W.notCls; rw [hv] <;> rfl, by rw [p.zc.2]; exact ho⟩
  exact HandSPX.exc_get I1.kIn J T.ga T.gg T.su (PySem.W.findObj_own T.hd hno rfl (by rw [hl, hw])) (handed_of rw') ⟨v, H1, I1.tok _, rw', q⟩
end
end Mi
set_option maxHeartbeats 1000000
/-! Na7: iterators' ends, whether an exception is handled or not. -/
namespace Mi
open PySem PySem.Spec PyProof.Rows L2 L2H HotX
/-- nothing is handled, or an exception whose context is None -/
def Quiet (A : Around) (h : Heap) : Prop := A.handled = none ∨ ∃ x1, HotAt A x1 h
/-- .. told by an object that stays -/
def QuietBy (A : Around) (q : List Addr) (h : Heap) : Prop := A.handled = none ∨ ∃ x1, HotAt A x1 h ∧ x1 ∈ q
theorem QuietBy.q {A : Around} {q : List Addr} {h : Heap} (z : QuietBy A q h) : Quiet A h := z.imp id fun ⟨x, e, _⟩ => ⟨x, e⟩
theorem QuietBy.keeps {A : Around} {q : List Addr} {h h' : Heap} (z : QuietBy A q h) (k : ∀ b ∈ q, ∀ o, h.get? b = some o → h'.get? b = some o) : QuietBy A q h' :=
  z.imp id fun ⟨x, ⟨e1, o, vs, e2, e3, e4⟩, hm⟩ => ⟨x, ⟨e1, o, vs, k x hm o e2, e3, e4⟩, hm⟩
theorem Quiet.by {A : Around} {h : Heap} (z : Quiet A h) : ∃ q, QuietBy A q h := by
  rcases z with z | ⟨x, z⟩
  · exact ⟨[], .inl z⟩
  · exact ⟨[x], .inr ⟨x, z, List.mem_singleton.mpr rfl⟩⟩
section
variable {prog : Program} {w : World} {A : Around} {E : Value → Shared → Prop} {s : Shared}
/-- StopIteration is raised -/
theorem stopU {α : Type} {Q : α → Shared → Prop} (hq : Quiet A s.heap)
    (hE : ∀ h2 e, (∀ b o, s.heap.get? b = some o → h2.get? b = some o) → (∃ o, h2.get? e = some o ∧ o.cls = .type "StopIteration") → E (.ref e) { s with heap := h2 }) :
    wpAny (model prog w) A (newExc (.type "StopIteration") [] >>= fun e => (raiseNew e : Sem α)) Q E s := by
  refine wpAny_bind ?_
  simp only [newExc, newTuple]
  refine wpAny_bind (wpAny_newObj_type ?_ (by size_fits))
  refine wpAny_bind (m := firstArgMember _ _) (wpAny_of_eq (a := Value.none) (by first | rfl | (simp only [firstArgMember]; rfl)) ?_)
  refine wpAny_newObj_type ?_ (by size_fits)
  rcases hq with hh | ⟨x1, hh, o1, vs1, e1, d1, c1⟩
  · unfold raiseNew
    refine wpAny_bind (wpAny_handled ?_)
    rw [hh]
    exact wpAny_bind (wpAny_pure (wpAny_throw (hE _ _ (fun b o e => Heap.get?_push_of_some _ (Heap.get?_push_of_some _ e)) ⟨_, Heap.get?_push_size _ rfl, rfl⟩)))
  · refine raiseNew_hot ⟨hh, o1, vs1, Heap.get?_push_of_some _ (Heap.get?_push_of_some _ e1), d1, c1⟩ (Nat.ne_of_lt (Heap.lt_size (Heap.get?_push_of_some _ e1))) (Heap.get?_push_size _ rfl) rfl (by first | (simp; done) | (simp; omega) | (simp only [Array.size_append]; simp; omega)) ?_
    refine hE _ _ (fun b o e => ?_) ⟨_, Heap.get?_update_self _ (Heap.get?_push_size _ rfl) rfl, rfl⟩
    rw [Heap.get?_update_other _ _ (Nat.ne_of_gt (Heap.lt_size (Heap.get?_push_of_some _ e)))]
    exact Heap.get?_push_of_some _ (Heap.get?_push_of_some _ e)
theorem quiet_update {it : Addr} {h : Heap} {f : Obj → Obj} (hq : Quiet A h) (hne : ∀ x1, HotAt A x1 h → x1 ≠ it) : Quiet A (h.update it f) := by
  rcases hq with hh | ⟨x1, hh⟩
  · exact .inl hh
  · obtain ⟨e1, o, vs, e2, e3, e4⟩ := id hh
    exact .inr ⟨x1, e1, o, vs, (Heap.get?_update_other _ _ (Ne.symm (hne x1 hh))).trans e2, e3, e4⟩
/-- the object of the exception that is handled is no iterator -/
theorem hot_ne {x1 it : Addr} {h : Heap} {o : Obj} {n : String} (hh : HotAt A x1 h) (hex : ∀ vs : Array Value, o.data = .fields vs → vs[2]? ≠ some .none) (ho : h.get? it = some o) : x1 ≠ it := fun z => by
  obtain ⟨_, o1, vs, e2, e3, e4⟩ := hh
  rw [z, ho] at e2
  cases e2
  exact hex vs e3 e4
theorem list_end {it l : Addr} {i : Nat} {items : Array Value} {Q : Option Value → Shared → Prop} (hq : Quiet A s.heap) (hit : s.heap.IsListIter it l i) (hl : s.heap.IsList l items) (hx : items[i]? = none)
    (hQ : ∀ h2, (∀ b o, b ≠ it → s.heap.get? b = some o → h2.get? b = some o) → Q none { s with heap := h2 }) : wpAny (model prog w) A (pyNext (.ref it)) Q E s := by
  obtain ⟨o, ho, hc, hd⟩ := id hit
  obtain ⟨ol, hol, _, nl, hdl⟩ := hl
  have hq2 := quiet_update (it := it) (f := Obj.mapFields (·.setIfInBounds 0 .none)) hq fun x1 hh => hot_ne (n := "") hh (fun vs z => by rw [hd] at z; cases z; simp) ho
  unfold pyNext
  refine wpAny_bind (wpAny_attempt (wpAny_callSpecial?_slot (name := Str.ofString "__next__") hit.typeIs slot_listiter_next
    (wpAny_call_entry slot_listiter_next hit.typeIs entry_listiter_next ?_ (args_listiter_next _))))
  show wpAny _ _ (field (.ref it) 0 >>= _) _ _ s
  refine wpAny_bind (wpAny_field ho hd (x := .ref l) rfl ?_)
  rw [if_neg (show ¬ ((Value.ref l == Value.none) = true) from Bool.false_ne_true)]
  refine wpAny_bind (wpAny_field ho hd (x := .int i 0) rfl ?_)
  refine wpAny_bind (wpAny_seqItems hol hdl ?_)
  simp only [Int.toNat_natCast, hx]
  refine wpAny_bind (wpAny_rule (wpAny_bind (wpAny_setField ho hd (by simp) (stopU hq2 fun h2 e k ⟨oe, he, hce⟩ => ?_))))
  refine wpAny_bind (wpAny_isInstance (T := "StopIteration") (b := true) ⟨oe, he, hce⟩ isSubtype_stop (wpAny_pure (hQ h2 fun b ob hb eb => k b ob ?_)))
  rw [Heap.get?_update_other _ _ (Ne.symm hb)]
  exact eb
theorem tuple_end {it l : Addr} {i : Nat} {items : Array Value} {Q : Option Value → Shared → Prop} (hq : Quiet A s.heap) (hit : s.heap.IsTupleIter it l i) (hl : s.heap.IsTuple l items) (hx : items[i]? = none)
    (hQ : ∀ h2, (∀ b o, b ≠ it → s.heap.get? b = some o → h2.get? b = some o) → Q none { s with heap := h2 }) : wpAny (model prog w) A (pyNext (.ref it)) Q E s := by
  obtain ⟨o, ho, hc, hd⟩ := id hit
  obtain ⟨ol, hol, _, nl, hdl⟩ := hl
  have hq2 := quiet_update (it := it) (f := Obj.mapFields (·.setIfInBounds 0 .none)) hq fun x1 hh => hot_ne (n := "") hh (fun vs z => by rw [hd] at z; cases z; simp) ho
  have slot := F.slot_tuple_iterator_next
  have ty := hit.typeIs
  unfold pyNext
  refine wpAny_bind (wpAny_attempt (wpAny_callSpecial?_slot (name := Str.ofString "__next__") ty slot (wpAny_call_entry slot ty F.entry_tuple_iterator_next ?_ (F.args_tuple_iterator_next_1 _))))
  show wpAny _ _ (field (.ref it) 0 >>= _) _ _ s
  refine wpAny_bind (wpAny_field ho hd (x := .ref l) rfl ?_)
  rw [if_neg (show ¬ ((Value.ref l == Value.none) = true) from Bool.false_ne_true)]
  refine wpAny_bind (wpAny_field ho hd (x := .int i 0) rfl ?_)
  refine wpAny_bind (wpAny_seqItems hol hdl ?_)
  simp only [Int.toNat_natCast, hx]
  refine wpAny_bind (wpAny_rule (wpAny_bind (wpAny_setField ho hd (by simp) (stopU hq2 fun h2 e k ⟨oe, he, hce⟩ => ?_))))
  refine wpAny_bind (wpAny_isInstance (T := "StopIteration") (b := true) ⟨oe, he, hce⟩ isSubtype_stop (wpAny_pure (hQ h2 fun b ob hb eb => k b ob ?_)))
  rw [Heap.get?_update_other _ _ (Ne.symm hb)]
  exact eb
theorem str_end {it : Addr} {x : Str} {t : Tok} {i : Nat} {ty : String} {Q : Option Value → Shared → Prop} (hty : ty = "str_ascii_iterator" ∨ ty = "str_iterator") (hq : Quiet A s.heap) (hit : s.heap.IsStrIter it ty x t i) (hx : x.cps[i]? = none)
    (hQ : ∀ h2, (∀ b o, b ≠ it → s.heap.get? b = some o → h2.get? b = some o) → Q none { s with heap := h2 }) : wpAny (model prog w) A (pyNext (.ref it)) Q E s := by
  obtain ⟨o, ho, hc, hd⟩ := id hit
  have hq2 := quiet_update (it := it) (f := Obj.mapFields (·.setIfInBounds 0 .none)) hq fun x1 hh => hot_ne (n := "") hh (fun vs z => by rw [hd] at z; cases z; simp) ho
  have tyIs := hit.typeIs
  rcases hty with rfl | rfl
  · have slot := F.slot_str_ascii_iterator_next
    unfold pyNext
    refine wpAny_bind (wpAny_attempt (wpAny_callSpecial?_slot (name := Str.ofString "__next__") tyIs slot (wpAny_call_entry slot tyIs F.entry_str_ascii_iterator_next ?_ (F.args_str_ascii_iterator_next_1 _))))
    show wpAny _ _ (field (.ref it) 0 >>= _) _ _ s
    refine wpAny_bind (wpAny_field ho hd (x := .str x t) rfl ?_)
    show wpAny _ _ (field (.ref it) 1 >>= _) _ _ s
    refine wpAny_bind (wpAny_field ho hd (x := .int i 0) rfl ?_)
    simp only [Int.toNat_natCast, hx]
    refine wpAny_bind (wpAny_rule (wpAny_bind (wpAny_setField ho hd (by simp) (wpAny_bind (wpAny_letGo (stopU hq2 fun h2 e k ⟨oe, he, hce⟩ => ?_))))))
    refine wpAny_bind (wpAny_isInstance (T := "StopIteration") (b := true) ⟨oe, he, hce⟩ isSubtype_stop (wpAny_pure (hQ h2 fun b ob hb eb => k b ob ?_)))
    rw [Heap.get?_update_other _ _ (Ne.symm hb)]
    exact eb
  · have slot := F.slot_str_iterator_next
    unfold pyNext
    refine wpAny_bind (wpAny_attempt (wpAny_callSpecial?_slot (name := Str.ofString "__next__") tyIs slot (wpAny_call_entry slot tyIs F.entry_str_iterator_next ?_ (F.args_str_iterator_next_1 _))))
    show wpAny _ _ (field (.ref it) 0 >>= _) _ _ s
    refine wpAny_bind (wpAny_field ho hd (x := .str x t) rfl ?_)
    show wpAny _ _ (field (.ref it) 1 >>= _) _ _ s
    refine wpAny_bind (wpAny_field ho hd (x := .int i 0) rfl ?_)
    simp only [Int.toNat_natCast, hx]
    refine wpAny_bind (wpAny_rule (wpAny_bind (wpAny_setField ho hd (by simp) (wpAny_bind (wpAny_letGo (stopU hq2 fun h2 e k ⟨oe, he, hce⟩ => ?_))))))
    refine wpAny_bind (wpAny_isInstance (T := "StopIteration") (b := true) ⟨oe, he, hce⟩ isSubtype_stop (wpAny_pure (hQ h2 fun b ob hb eb => k b ob ?_)))
    rw [Heap.get?_update_other _ _ (Ne.symm hb)]
    exact eb
theorem range_end {it : Addr} {x left step : Int} {Q : Option Value → Shared → Prop} (hq : Quiet A s.heap) (hit : IsRangeIter s.heap it x left step) (hl : left ≤ 0)
    (hQ : ∀ h2, (∀ b o, b ≠ it → s.heap.get? b = some o → h2.get? b = some o) → Q none { s with heap := h2 }) : wpAny (model prog w) A (pyNext (.ref it)) Q E s := by
  rcases hq with hh | ⟨x1, hot⟩
  · exact wpAny_pyNext_range_end hh hit hl fun h2 eb => hQ h2 eb
  · exact pyNext_range_end_hot hot hit hl fun h2 k => hQ h2 fun b o _ e => k b o e
/-- the end of a list's iterator, asked within enumerate -/
theorem nextOf_end {it l : Addr} {i : Nat} {items : Array Value} {Q : Value → Shared → Prop} (hq : Quiet A s.heap) (hit : s.heap.IsListIter it l i) (hl : s.heap.IsList l items) (hx : items[i]? = none)
    (hE : ∀ h2 e, Heap.ExtBut it s.heap h2 → (∃ o, h2.get? e = some o ∧ o.cls = .type "StopIteration") → E (.ref e) { s with heap := h2 }) : wpAny (model prog w) A (Builtin.SmallTypes.nextOf (.ref it)) Q E s := by
  obtain ⟨o, ho, hc, hd⟩ := id hit
  obtain ⟨ol, hol, _, nl, hdl⟩ := hl
  have hq2 := quiet_update (it := it) (f := Obj.mapFields (·.setIfInBounds 0 .none)) hq fun x1 hh => hot_ne (n := "") hh (fun vs z => by rw [hd] at z; cases z; simp) ho
  have slot := slot_listiter_next
  have ty := hit.typeIs
  unfold Builtin.SmallTypes.nextOf
  refine wpAny_bind (wpAny_callSpecial?_slot (name := Str.ofString "__next__") ty slot (wpAny_call_entry slot ty entry_listiter_next ?_ (args_listiter_next _)))
  show wpAny _ _ (field (.ref it) 0 >>= _) _ _ s
  refine wpAny_bind (wpAny_field ho hd (x := .ref l) rfl ?_)
  rw [if_neg (show ¬ ((Value.ref l == Value.none) = true) from Bool.false_ne_true)]
  refine wpAny_bind (wpAny_field ho hd (x := .int i 0) rfl ?_)
  refine wpAny_bind (wpAny_seqItems hol hdl ?_)
  simp only [Int.toNat_natCast, hx]
  refine wpAny_bind (wpAny_rule (wpAny_bind (wpAny_setField ho hd (by simp) (stopU hq2 fun h2 e k hs => hE h2 e (fun b ob hb eb => k b ob ?_) hs))))
  rw [Heap.get?_update_other _ _ (Ne.symm hb)]
  exact eb
end
end Mi
set_option maxHeartbeats 1000000
/-! Na8: walks and for, whether an exception is handled or not. -/
namespace Mi
open PySem PySem.Spec PyProof.Rows L2 L2H HotX
/-- a context where loops may end -/
def QX (X : Cx) : Prop := X.calm = true ∨ HotC X
theorem QX.quiet {X : Cx} {pins : List (Addr × Obj)} {σ : L2.St} {H : Hp} {s : Shared} (q : QX X) (I : Inv X pins σ H s) : Quiet X.A s.heap := q.elim (fun z => .inl (I.ok.hd z)) fun z => .inr (z.at I)
/-- .. by an object that no loop's records are -/
theorem QX.by {X : Cx} {pins : List (Addr × Obj)} {σ : L2.St} {H : Hp} {s : Shared} (q : QX X) (I : Inv X pins σ H s) : ∃ l, QuietBy X.A l s.heap ∧ ∀ b, (∀ p ∈ X.pn ++ pins, p.1 ≠ b) → b ∉ l := by
  rcases q with z | ⟨p, ⟨hh, vs, e1, e2⟩, hm⟩
  · exact ⟨[], .inl (I.ok.hd z), fun _ _ => List.not_mem_nil⟩
  · exact ⟨[p.1], .inr ⟨p.1, ⟨hh, p.2, vs, (I.pin p (List.mem_append_left _ hm)).1, e1, e2⟩, List.mem_singleton.mpr rfl⟩, fun b hb z => hb p (List.mem_append_left _ hm) (List.mem_singleton.mp z).symm⟩
/-- a turn of a walk, its end, in every such context -/
structure TurnU (qp : Cx → Prop) (P : Program) (w : World) (K : PySem.W.Frag) (tg : Expr) (J : It) (fp : List Addr) (it : Addr) (tn : Nat → Heap → Prop) : Prop where
  mem : it ∈ fp
  obj : ∀ i h, tn i h → ∀ b ∈ fp, ∃ o, h.get? b = some o ∧ ∀ v, o.data ≠ .cell v
  keep : ∀ i h h', tn i h → (∀ b ∈ fp, ∀ o, h.get? b = some o → h'.get? b = some o) → tn i h'
  item : ∀ (X : Cx), X.prog = P ∧ X.w = w ∧ X.K = K ∧ qp X → ∀ (i : Nat) (pins : List (Addr × Obj)) (s : Shared) (σ : L2.St) (H : Hp) (E : Value → Shared → Prop), Inv X pins σ H s → (∀ b ∈ fp, FpOk X pins H b) → tn i s.heap → J.go i H →
    wpAny (model P w) X.A (pyNext (.ref it)) (fun r s1 => ∃ u, r = some u ∧ wpAny (model P w) X.A (letOwnedTupleGo tg (.ref it) u) (fun _ s2 => ∃ x H', Inv X pins σ H' s2 ∧ L2.RelV x u ∧ J.yld i H x H' ∧ tn (i + 1) s2.heap ∧ ∀ b ∈ fp, H' b = none) E s1) E s
  done : ∀ (X : Cx), X.prog = P ∧ X.w = w ∧ X.K = K ∧ qp X → ∀ (i : Nat) (pins : List (Addr × Obj)) (s : Shared) (σ : L2.St) (H : Hp) (E : Value → Shared → Prop), Inv X pins σ H s → (∀ b ∈ fp, FpOk X pins H b) → tn i s.heap → J.stop i H →
    wpAny (model P w) X.A (pyNext (.ref it)) (fun r s1 => r = none ∧ Inv X pins σ H s1) E s
  self : ∀ (A : Around) (i : Nat) (s : Shared) (Q : Value → Shared → Prop) (E : Value → Shared → Prop), tn i s.heap → Q (.ref it) s → wpAny (model P w) A (pyIter (.ref it)) Q E s
/-- an iterator of one record -/
theorem turn_rec {P : Program} {w : World} {K : PySem.W.Frag} {tg : Expr} {J : It} {it : Addr} {tn : Nat → Heap → Prop} {n : String} (hobj : ∀ i h, tn i h → ∃ o vs, h.get? it = some o ∧ o.cls = .type n ∧ o.data = .fields vs) (hkeep : ∀ i h h', tn i h → (∀ o, h.get? it = some o → h'.get? it = some o) → tn i h')
    (hn : ["enumerate", "zip", "dict_itemiterator", "dict_reverseitemiterator", "odict_iterator", "itertools.zip_longest", "itertools.pairwise"].contains n = false)
    (hitem : ∀ (X : Cx), X.prog = P ∧ X.w = w ∧ X.K = K ∧ QX X → ∀ (i : Nat) (pins : List (Addr × Obj)) (s : Shared) (σ : L2.St) (H : Hp) (E : Value → Shared → Prop) (Q : Option Value → Shared → Prop), Inv X pins σ H s → tn i s.heap → J.go i H →
      (∀ u x h2 tk, L2.RelV x u → J.yld i H x H → tn (i + 1) h2 → (∀ b o, b ≠ it → s.heap.get? b = some o → h2.get? b = some o) → Q (some u) { s with heap := h2, toks := tk }) → wpAny (model P w) X.A (pyNext (.ref it)) Q E s)
    (hdone : ∀ (X : Cx), X.prog = P ∧ X.w = w ∧ X.K = K ∧ QX X → ∀ (i : Nat) (pins : List (Addr × Obj)) (s : Shared) (σ : L2.St) (H : Hp) (E : Value → Shared → Prop) (Q : Option Value → Shared → Prop), Inv X pins σ H s → tn i s.heap → J.stop i H → Quiet X.A s.heap →
      (∀ h2, (∀ b o, b ≠ it → s.heap.get? b = some o → h2.get? b = some o) → Q none { s with heap := h2 }) → wpAny (model P w) X.A (pyNext (.ref it)) Q E s)
    (hself : ∀ (A : Around) (i : Nat) (s : Shared) (Q : Value → Shared → Prop) (E : Value → Shared → Prop), tn i s.heap → Q (.ref it) s → wpAny (model P w) A (pyIter (.ref it)) Q E s) : TurnU QX P w K tg J [it] it tn where
  mem := List.mem_singleton.mpr rfl
  obj := fun i h st b hb => by
    cases List.mem_singleton.mp hb
    obtain ⟨o, vs, e, _, d⟩ := hobj i h st
    exact ⟨o, e, fun v z => by rw [d] at z; cases z⟩
  keep := fun i h h' st k => hkeep i h h' st (k it (List.mem_singleton.mpr rfl))
  item := fun X hX i pins s σ H E I hf st hg => by
    obtain ⟨f0, f1, f2, f3, f4, f5⟩ := hf it (List.mem_singleton.mpr rfl)
    refine hitem X hX i pins s σ H E _ I st hg fun u x h2 tk ru y st2 k => ?_
    have I2 : Inv X pins σ H { s with heap := h2, toks := tk } := I.turned k f0 f1 f3 f4 f5
    obtain ⟨o, vs, e, c, d⟩ := hobj _ h2 st2
    exact ⟨u, rfl, go_of (s := { s with heap := h2, toks := tk }) e c d hn ⟨x, H, I2, ru, y, st2, fun b hb => (hf b hb).1⟩⟩
  done := fun X hX i pins s σ H E I hf st hg => by
    obtain ⟨f0, f1, f2, f3, f4, f5⟩ := hf it (List.mem_singleton.mpr rfl)
    exact hdone X hX i pins s σ H E _ I st hg (hX.2.2.2.quiet I) fun h2 k => ⟨rfl, I.turned (t' := s.toks) k f0 f1 f3 f4 f5⟩
  self := hself
theorem turnU_list {P : Program} {w : World} {K : PySem.W.Frag} {tg : Expr} (a it : Addr) : TurnU QX P w K tg (Itl K a) [it] it (fun i h => h.IsListIter it a i) := by
  refine turn_rec (n := "list_iterator") (fun i h ⟨o, e, c, d⟩ => ⟨o, _, e, c, d⟩) (fun i h h' st k => st.at fun o e => k o e) (by decide) ?_ ?_ (fun _ _ _ _ _ st h => wpAny_pyIter_listiter st h)
  · rintro X ⟨rfl, rfl, rfl, -⟩ i pins s σ H E Q I st ⟨xs, x, hq, hx⟩ q
    obtain ⟨its, rv, p, hz⟩ := I.list hq
    obtain ⟨u, hu, ru⟩ := rv.get hx
    exact wpAny_pyNext_list_item st p.isList (x := u) (by simpa using hu) fun h2 st2 sb => q u x h2 s.toks ru ⟨rfl, fun ys hy => by rw [I.list_inj hy hq]; exact hx⟩ st2 fun b o hb e => (sb.2 b hb).trans e
  · rintro X ⟨rfl, rfl, rfl, -⟩ i pins s σ H E Q I st ⟨xs, hq, hx⟩ hQ q
    obtain ⟨its, rv, p, hz⟩ := I.list hq
    have hl := rv.length
    exact list_end hQ st p.isList (by simp; omega) q
theorem turnU_tuple {P : Program} {w : World} {K : PySem.W.Frag} {tg : Expr} (a it : Addr) : TurnU QX P w K tg (Itt K a) [it] it (fun i h => h.IsTupleIter it a i) := by
  refine turn_rec (n := "tuple_iterator") (fun i h ⟨o, e, c, d⟩ => ⟨o, _, e, c, d⟩) (fun i h h' st k => st.at fun o e => k o e) (by decide) ?_ ?_ (fun _ _ _ _ _ st h => wpAny_pyIter_tupleiter st h)
  · rintro X ⟨rfl, rfl, rfl, -⟩ i pins s σ H E Q I st ⟨xs, x, hq, hx⟩ q
    obtain ⟨its, rv, p, hz⟩ := I.tuple hq
    obtain ⟨u, hu, ru⟩ := rv.get hx
    exact wpAny_pyNext_tuple_item st (show s.heap.IsTuple a its.toArray from p) (x := u) (by simpa using hu) fun h2 st2 sb => q u x h2 s.toks ru ⟨rfl, fun ys hy => by rw [I.tuple_inj hy hq]; exact hx⟩ st2 fun b o hb e => (sb.2 b hb).trans e
  · rintro X ⟨rfl, rfl, rfl, -⟩ i pins s σ H E Q I st ⟨xs, hq, hx⟩ hQ q
    obtain ⟨its, rv, p, hz⟩ := I.tuple hq
    have hl := rv.length
    exact tuple_end hQ st (show s.heap.IsTuple a its.toArray from p) (by simp; omega) q
theorem turnU_str {P : Program} {w : World} {K : PySem.W.Frag} {tg : Expr} (it : Addr) (x : Str) (t : Tok) (ty : String) (hty : ty = "str_ascii_iterator" ∨ ty = "str_iterator") : TurnU QX P w K tg (Its x) [it] it (fun i h => h.IsStrIter it ty x t i) := by
  refine turn_rec (n := ty) (fun i h ⟨o, e, c, d⟩ => ⟨o, _, e, c, d⟩) (fun i h h' ⟨o, ho, r⟩ k => ⟨o, k o ho, r⟩) (by rcases hty with rfl | rfl <;> decide) ?_ ?_ (fun A i s Q E st h => ?_)
  · rintro X ⟨rfl, rfl, rfl, -⟩ i pins s σ H E Q I st hg q
    have hx : x.cps[i]? = some x.cps[i] := Array.getElem?_eq_getElem hg
    rcases hty with rfl | rfl
    · exact wpAny_pyNext_ascii_item st hx fun h2 st2 sb => q _ (.str ⟨#[x.cps[i]]⟩) h2 _ ⟨_, rfl⟩ ⟨rfl, _, hx, rfl⟩ st2 fun b o hb e => (sb.2 b hb).trans e
    · exact wpAny_pyNext_wide_item st hx fun h2 st2 sb => q _ (.str ⟨#[x.cps[i]]⟩) h2 _ ⟨_, rfl⟩ ⟨rfl, _, hx, rfl⟩ st2 fun b o hb e => (sb.2 b hb).trans e
  · rintro X ⟨rfl, rfl, rfl, -⟩ i pins s σ H E Q I st hg hQ q
    exact str_end hty hQ st (Array.getElem?_eq_none hg) q
  · rcases hty with rfl | rfl
    · exact wpAny_pyIter_striter_ascii st h
    · exact wpAny_pyIter_striter_wide st h
theorem turnU_range {P : Program} {w : World} {K : PySem.W.Frag} {tg : Expr} (it : Addr) (lo st : Int) (n : Nat) : TurnU QX P w K tg (Itc lo st n) [it] it (fun i h => IsRangeIter h it (lo + (i : Nat) * st) ((n : Int) - (i : Nat)) st) := by
  refine turn_rec (n := "range_iterator") (fun i h e => ⟨_, _, e, rfl, rfl⟩) (fun i h h' e k => k _ e) (by decide) ?_ ?_ (fun _ _ _ _ _ st h => wpAny_pyIter_rangeiter st h)
  · rintro X ⟨rfl, rfl, rfl, -⟩ i pins s σ H E Q I hs hg q
    have hg : i < n := hg
    refine wpAny_pyNext_range_item hs (by omega) fun h2 st2 sb => q _ (.int (lo + (i : Nat) * st)) h2 _ ⟨_, rfl⟩ ⟨rfl, rfl⟩ ?_ fun b o hb e => (sb.2 b hb).trans e
    have e1 : lo + ((i : Nat) : Int) * st + st = lo + ((i + 1 : Nat) : Int) * st := by
      rw [show ((i + 1 : Nat) : Int) = (i : Int) + 1 by omega, Int.add_mul, Int.one_mul, Int.add_assoc]
    have e2 : (n : Int) - ((i : Nat) : Int) - 1 = (n : Int) - ((i + 1 : Nat) : Int) := by omega
    rw [e1, e2] at st2
    exact st2
  · rintro X ⟨rfl, rfl, rfl, -⟩ i pins s σ H E Q I hs hg hQ q
    have hg : n ≤ i := hg
    exact range_end hQ hs (by omega) q
theorem TurnU.of {P : Program} {w : World} {K : PySem.W.Frag} {tg : Expr} {J : It} {fp : List Addr} {it : Addr} {tn : Nat → Heap → Prop} (T : Turn P w K tg J fp it tn) : TurnU (fun X => X.calm = true) P w K tg J fp it tn :=
  ⟨T.mem, T.obj, T.keep, fun X hX => T.item X hX.1 hX.2.1 hX.2.2.1 hX.2.2.2, fun X hX => T.done X hX.1 hX.2.1 hX.2.2.1 hX.2.2.2, T.self⟩
/-! ### enumerate(x, start=k) -/
theorem draws_q {P : Program} {w : World} {A : Around} {it l : Addr} {items : Array Value} {q : List Addr} (hne : l ≠ it) (nq : it ∉ q) :
    Draws P w A it (it :: l :: q) items.size (fun i x => items[i]? = some x) (fun i h => (h.IsListIter it l i ∧ h.IsList l items) ∧ QuietBy A q h) where
  live := fun i h st => let ⟨⟨⟨o, ho, _⟩, _⟩, _⟩ := st; ⟨o, ho⟩
  frame := fun i h h' st k => ⟨⟨st.1.1.at fun o q => k it (by simp) o q, st.1.2.at fun o q => k l (by simp) o q⟩, st.2.keeps fun b hb o e => k b (by simp [hb]) o e⟩
  item := fun i s Q E hi st hQ => by
    have hx : items[i]? = some items[i] := Array.getElem?_eq_getElem hi
    exact wpAny_nextOf_list_item st.1.1 st.1.2 hx fun h' hit hs => hQ _ h' s.toks hx ⟨⟨hit, st.1.2.at fun o q => (hs.2 l hne).trans q⟩, st.2.keeps fun b hb o e => (hs.2 b fun z => nq (z ▸ hb)).trans e⟩ hs
  done := fun s Q E st hE => nextOf_end st.2.q st.1.1 st.1.2 (by simp) hE
theorem draws_qe {P : Program} {w : World} {A : Around} {it l : Addr} {items : Array Value} {q : List Addr} {i : Nat} (hx : items[i]? = none) :
    Draws P w A it (it :: l :: q) i (fun _ _ => True) (fun j h => j = i ∧ (h.IsListIter it l i ∧ h.IsList l items) ∧ QuietBy A q h) where
  live := fun i h st => let ⟨_, ⟨⟨o, ho, _⟩, _⟩, _⟩ := st; ⟨o, ho⟩
  frame := fun i h h' st k => ⟨st.1, ⟨st.2.1.1.at fun o q => k it (by simp) o q, st.2.1.2.at fun o q => k l (by simp) o q⟩, st.2.2.keeps fun b hb o e => k b (by simp [hb]) o e⟩
  item := fun j s Q E hi st hQ => absurd hi (by rw [st.1]; exact Nat.lt_irrefl _)
  done := fun s Q E st hE => nextOf_end st.2.2.q st.2.1.1 st.2.1.2 hx hE
/-- the list at a as it stands at each turn, each item behind its number from k -/
def Ite1 (K : PySem.W.Frag) (k : Int) (a : Addr) : It :=
  ⟨fun i H => ∃ (xs : List L2.V) (x : L2.V), SqL K H a xs ∧ xs[i]? = some x, fun i H v H' => ∃ T x, v = .ref T ∧ H T = none ∧ H' = upd H T (.tup [.int (k + (i : Int)), x]) ∧ ∀ xs, SqL K H a xs → xs[i]? = some x, fun i H => ∃ xs : List L2.V, SqL K H a xs ∧ xs.length ≤ i⟩
theorem turnU_enum {P : Program} {w : World} {K : PySem.W.Frag} {elts : List Expr} {kk : Nat} {tpos : Pos} (k : Int) (a e it : Addr) :
    TurnU QX P w K (.Tuple elts kk tpos) (Ite1 K k a) [e, it] e (fun i h => (∃ old, IsEnum h e it (k + (i : Int)) old) ∧ h.IsListIter it a i ∧ e ≠ it) where
  mem := by simp
  obj := fun i h st b hb => by
    obtain ⟨⟨old, he⟩, ⟨o, ho, hc, hd⟩, _⟩ := st
    have e' : b = e ∨ b = it := by simpa using hb
    rcases e' with z | z
    · rw [z]; exact ⟨_, he, fun v q => nomatch q⟩
    · rw [z]; exact ⟨o, ho, fun v q => by rw [hd] at q; cases q⟩
  keep := fun i h h' st k => let ⟨⟨old, he⟩, hi, hne⟩ := st; ⟨⟨old, k e (by simp) _ he⟩, hi.at fun o q => k it (by simp) o q, hne⟩
  item := by
    rintro X ⟨rfl, rfl, rfl, hQX⟩ i pins s σ H E I hf st hg
    obtain ⟨⟨old, he⟩, hit, hne⟩ := st
    obtain ⟨xs, x, hq, hx⟩ := hg
    obtain ⟨its, rv, p, hz⟩ := I.list hq
    obtain ⟨u, hu, ru⟩ := rv.get hx
    have hu' : its.toArray[i]? = some u := by simpa using hu
    have hi : i < its.toArray.size := (Array.getElem?_eq_some_iff.mp hu').1
    have hel : e < s.heap.objs.size := Heap.lt_size he
    have hil : it < s.heap.objs.size := by obtain ⟨_, q, _⟩ := hit; exact Heap.lt_size q
    have hl := p.isList
    have hea : e ≠ a := fun q => by
      obtain ⟨o, ho, hc, _⟩ := hl
      rw [← q] at ho
      have : o = _ := Option.some.inj (ho.symm.trans he)
      rw [this] at hc
      injection hc with hc
      exact absurd hc (by decide)
    have hia : a ≠ it := fun q => by
      obtain ⟨o, ho, hc, _⟩ := hl
      obtain ⟨o2, ho2, hc2, _⟩ := hit
      rw [q] at ho
      have : o = o2 := Option.some.inj (ho.symm.trans ho2)
      rw [this, hc2] at hc
      injection hc with hc
      exact absurd hc (by decide)
    obtain ⟨ql, hql, nql⟩ := hQX.by I
    have nit : it ∉ ql := nql it (hf it (by simp)).2.2.2.2.2
    have ne_ : e ∉ ql := nql e (hf e (by simp)).2.2.2.2.2
    refine wpAny_pyNext_enum_itemC (draws_q (A := X.A.in1) (q := ql) hia nit) he ⟨⟨hit, hl⟩, hql⟩ hi hne (by simp [hne, hea, ne_]) fun x' h' tk hx' ho st' hT hsz hk => ?_
    have exu : x' = u := Option.some.inj (hx'.symm.trans hu')
    subst exu
    obtain ⟨⟨hit', hl'⟩, _⟩ := st'
    refine ⟨_, rfl, wpAny_letOwnedTupleGo_enum (s := { s with heap := h', toks := tk + 1 }) ho fun h'' he' sb => ?_⟩
    have hT2 : h''.get? s.heap.objs.size = some { cls := .type "tuple", data := .seq #[.int (k + (i : Int)) tk, x'] } := (sb.2 _ (Nat.ne_of_gt hel)).trans hT
    have new : ObjOk X.prog X.w (upd H s.heap.objs.size (.tup [.int (k + (i : Int)), x])) h'' s.heap.objs.size (.tup [.int (k + (i : Int)), x]) :=
      ⟨by show 2 ≤ sizeLine; decide, [.int (k + (i : Int)) tk, x'], .cons ⟨_, rfl⟩ (.cons ru .nil), ⟨_, hT2, rfl, _, rfl⟩⟩
    have I1 : Inv X pins σ (upd H s.heap.objs.size (.tup [.int (k + (i : Int)), x])) { s with heap := h'', toks := tk + 1 } :=
      I.turnedNew (ch := [e, it]) (fun b ob hb q => (sb.2 b (fun z => hb (by simp [z]))).trans (hk b ob (fun z => hb (by simp [z])) (fun z => hb (by simp [z])) q)) hf (Nat.le_refl _) new
    refine ⟨.ref s.heap.objs.size, _, I1, rfl, ⟨_, x, rfl, I.hok.fresh (Nat.le_refl _), rfl, fun ys hy => by rw [I.list_inj hy hq]; exact hx⟩, ⟨⟨x', ?_⟩, hit'.at fun o q => (sb.2 it (Ne.symm hne)).trans q, hne⟩, fun b hb => ?_⟩
    · have e1 : k + ((i + 1 : Nat) : Int) = k + (i : Int) + 1 := by omega
      rw [e1]; exact he'
    · have hb' : b < s.heap.objs.size := by
        have e' : b = e ∨ b = it := by simpa using hb
        rcases e' with z | z
        · rw [z]; exact hel
        · rw [z]; exact hil
      rw [upd_ne (Nat.ne_of_lt hb')]
      exact (hf b hb).1
  done := by
    rintro X ⟨rfl, rfl, rfl, hQX⟩ i pins s σ H E I hf st hg
    obtain ⟨⟨old, he⟩, hit, hne⟩ := st
    obtain ⟨xs, hq, hx⟩ := hg
    obtain ⟨its, rv, p, hz⟩ := I.list hq
    obtain ⟨f0, f1, f2, f3, f4, f5⟩ := hf it (by simp)
    have hl := rv.length
    have hn : its.toArray[i]? = none := by simp; omega
    obtain ⟨ql, hql, _⟩ := hQX.by I
    exact wpAny_pyNext_enum_endD (draws_qe (A := X.A.in1) (l := a) (q := ql) (items := its.toArray) hn) he ⟨rfl, ⟨hit, p.isList⟩, hql⟩ fun h' eb => ⟨rfl, I.turned (t' := s.toks) (fun b o hb q => eb b o hb q) f0 f1 f3 f4 f5⟩
  self := fun A i s Q E st h => let ⟨⟨_, he⟩, _⟩ := st; wpAny_pyIter_enum he h
/-! ### what is walked -/
def PIEU (qp : Cx → Prop) (X : Cx) (pins : List (Addr × Obj)) (σ : L2.St) (tg : Expr) (R : It → Hp → Prop) (itv : Value) (s2 : Shared) : Prop :=
  ∃ (it : Addr) (fp : List Addr) (tn : Nat → Heap → Prop) (J : It) (H' : Hp), itv = .ref it ∧ Inv X pins σ H' s2 ∧ TurnU qp X.prog X.w X.K tg J fp it tn ∧ tn 0 s2.heap ∧ (∀ b ∈ fp, FpOk X pins H' b) ∧ R J H'
structure PIU (qp : Cx → Prop) (X : Cx) (tg iter : Expr) (wi : TI) : Prop where
  run : ∀ (pins : List (Addr × Obj)) (s : Shared) (σ : L2.St) (H : Hp) (R : It → Hp → Prop), Inv X pins σ H s → wi σ H R →
    wpAny (model X.prog X.w) X.A (eval iter X.env) (fun v s1 => wpAny (model X.prog X.w) X.A (pyIter v) (PIEU qp X pins σ tg R) X.xe s1) X.xe s
theorem PIU.of {X : Cx} {tg iter : Expr} {wi : TI} (h : PI X tg iter wi) : PIU (fun X => X.calm = true) X tg iter wi :=
  ⟨fun pins s σ H R I q => thn (h.run pins s σ H R I q) fun v s1 h1 => thn h1 fun itv s2 ⟨it, fp, tn, J, H2, e, I2, T, st, f, r⟩ => ⟨it, fp, tn, J, H2, e, I2, TurnU.of T, st, f, r⟩⟩
section
variable {X : Cx} {tg : Expr} {pins : List (Addr × Obj)} {σ : L2.St} {H : Hp} {s : Shared} {R : It → Hp → Prop}
/-- one new record -/
theorem pieU_one {J : It} {tn : Nat → Heap → Prop} {o : Obj} {tk : Nat} (I : Inv X pins σ H s) (T : TurnU QX X.prog X.w X.K tg J [s.heap.objs.size] s.heap.objs.size tn) (st : tn 0 (s.heap.push o)) (q : R J H) :
    PIEU QX X pins σ tg R (.ref s.heap.objs.size) { s with heap := s.heap.push o, toks := tk } := by
  refine ⟨_, _, _, J, H, rfl, I.kept (t' := tk) fun b o e => Heap.get?_push_of_some _ e, T, st, fun b hb => ?_, q⟩
  cases List.mem_singleton.mp hb
  exact I.fpOk (Nat.le_refl _) (I.hok.fresh (Nat.le_refl _))
theorem piU_list {l : Expr} {tl : TE} (hl : PE X l tl) : PIU QX X tg l (iList X.K tl) := by
  refine ⟨fun pins s σ H R I h => thn (hl.run pins s σ H _ I h) ?_⟩
  rintro v s1 ⟨x, H1, I1, r1, a, rfl, ⟨xs, hq⟩, q⟩
  cases r1
  obtain ⟨its, rv, p, hz⟩ := I1.list hq
  exact wpAny_pyIter_list p.isList (pieU_one (tk := s1.toks) I1 (turnU_list a _) ⟨_, Heap.get?_push_size _ rfl, rfl, rfl⟩ q)
theorem piU_tup {l : Expr} {tl : TE} (hl : PE X l tl) : PIU QX X tg l (iTup X.K tl) := by
  refine ⟨fun pins s σ H R I h => thn (hl.run pins s σ H _ I h) ?_⟩
  rintro v s1 ⟨x, H1, I1, r1, a, rfl, ⟨xs, hq⟩, q⟩
  cases r1
  obtain ⟨its, rv, p, hz⟩ := I1.tuple hq
  exact wpAny_pyIter_tuple (show s1.heap.IsTuple a its.toArray from p) (pieU_one (tk := s1.toks) I1 (turnU_tuple a _) ⟨_, Heap.get?_push_size _ rfl, rfl, rfl⟩ q)
theorem piU_str {e : Expr} {te : TE} (he : PE X e te) : PIU QX X tg e (iStr te) := by
  refine ⟨fun pins s σ H R I h => thn (he.run pins s σ H _ I h) ?_⟩
  rintro v s1 ⟨y, H1, I1, r1, x, rfl, q⟩
  obtain ⟨t, rfl⟩ := r1
  cases ha : x.cps.all (· < 128)
  · exact wpAny_pyIter_wide ha (pieU_one (tk := s1.toks) I1 (turnU_str _ x t "str_iterator" (.inr rfl)) ⟨_, Heap.get?_push_size _ rfl, rfl, rfl⟩ q)
  · exact wpAny_pyIter_ascii ha (pieU_one (tk := s1.toks) I1 (turnU_str _ x t "str_ascii_iterator" (.inl rfl)) ⟨_, Heap.get?_push_size _ rfl, rfl, rfl⟩ q)
/-- a range object just made, walked -/
theorem rangeU_it {i j c : Int} {n : Nat} {t u v : Tok} {tk : Nat} {E : Value → Shared → Prop} (I : Inv X pins σ H s) (c2 : Builtin.Range.small i j c = true) (c3 : Builtin.Range.rangeSize i j c = n) (q : R (Itc i c n) H) :
    wpAny (model X.prog X.w) X.A (pyIter (.ref s.heap.objs.size)) (PIEU QX X pins σ tg R) E { s with heap := s.heap.push { cls := .type "range", data := .fields #[.int i t, .int j u, .int c v] }, toks := tk } := by
  refine wpAny_pyIter_range (IsRange.new ..) c2 ?_
  have I2 : Inv X pins σ H { s with heap := s.heap.push { cls := .type "range", data := .fields #[.int i t, .int j u, .int c v] }, toks := tk } := I.kept fun b o e => Heap.get?_push_of_some _ e
  refine pieU_one (tk := tk) I2 (turnU_range _ i c n) ?_ q
  have e1 : i + ((0 : Nat) : Int) * c = i := by simp
  have e2 : (n : Int) - ((0 : Nat) : Int) = Builtin.Range.rangeSize i j c := by rw [c3]; simp
  show IsRangeIter _ _ (i + ((0 : Nat) : Int) * c) ((n : Int) - ((0 : Nat) : Int)) c
  rw [e1, e2]
  exact Heap.get?_push_size _ rfl
def iR1 (ta : TA) : TI := fun σ H R => ta σ H fun vs H1 => ∃ j : Int, vs = [.int j] ∧ -(2 ^ 62) ≤ j ∧ j < 2 ^ 62 ∧ R (Itc 0 1 j.toNat) H1
def iR2 (ta : TA) : TI := fun σ H R => ta σ H fun vs H1 => ∃ i j : Int, vs = [.int i, .int j] ∧ (-(2 ^ 62) ≤ i ∧ i < 2 ^ 62 ∧ -(2 ^ 62) ≤ j ∧ j < 2 ^ 62) ∧ R (Itc i 1 (j - i).toNat) H1
theorem size_up (i j : Int) : Builtin.Range.rangeSize i j 1 = ((j - i).toNat : Nat) := by
  rw [rangeSize_one]
  split <;> omega
theorem piU_range1 {a : Expr} {ta : TA} {p pos : Pos} (hg : Gl X "range") (hm : X.mg "range" = none) (ha : PA X [a] ta) (hs : starEach [a] X.env = [(false, eval a X.env)]) : PIU QX X tg (.Call (.Name "range" p) [a] [] pos) (iR1 ta) := by
  refine ⟨fun pins s σ H R I h => Call_ (ld_blt I hg hm boot_range (PyProof.Rows.callWith_type1 (thn (ha.run pos pins s σ H _ I h) ?_) hs rfl))⟩
  rintro us s1 ⟨vs, H1, I1, r1, j, rfl, q1, q2, q⟩
  cases r1 with
  | cons r rr =>
    cases rr
    obtain ⟨t, rfl⟩ := r
    exact call_range_1 (rangeU_it I1 (small_one (by omega) (by omega) q1 q2) (by rw [size_up, Int.sub_zero]) q)
theorem piU_range2 {a b : Expr} {ta : TA} {p pos : Pos} (hg : Gl X "range") (hm : X.mg "range" = none) (ha : PA X [a, b] ta) (hs : starEach [a, b] X.env = (false, eval a X.env) :: starEach [b] X.env) (hs2 : starEach [b] X.env = [(false, eval b X.env)]) :
    PIU QX X tg (.Call (.Name "range" p) [a, b] [] pos) (iR2 ta) := by
  refine ⟨fun pins s σ H R I h => Call_ (ld_blt I hg hm boot_range (PyProof.Rows.callWith_type1 (thn (ha.run pos pins s σ H _ I h) ?_) hs (by rw [hs2]; rfl)))⟩
  rintro us s1 ⟨vs, H1, I1, r1, i, j, rfl, ⟨q1, q2, q3, q4⟩, q⟩
  cases r1 with
  | cons r rr =>
    cases rr with
    | cons r' rr =>
      cases rr
      obtain ⟨t, rfl⟩ := r
      obtain ⟨t', rfl⟩ := r'
      exact call_range_2 (rangeU_it I1 (small_one q1 q2 q3 q4) (size_up i j) q)
theorem piU_range3 {a b c : Expr} {ta : TA} {p pos : Pos} (hg : Gl X "range") (hm : X.mg "range" = none) (ha : PA X [a, b, c] ta) (hs : starEach [a, b, c] X.env = (false, eval a X.env) :: starEach [b, c] X.env) (hpl : (backTo pos (starEach [b, c] X.env)).any (·.1) = false) :
    PIU QX X tg (.Call (.Name "range" p) [a, b, c] [] pos) (iRng3 ta) := by
  refine ⟨fun pins s σ H R I h => Call_ (ld_blt I hg hm boot_range (PyProof.Rows.callWith_type1 (thn (ha.run pos pins s σ H _ I h) ?_) hs hpl))⟩
  rintro us s1 ⟨vs, H1, I1, r1, i, j, k, n, rfl, ⟨c0, c1, c2, c3⟩, q⟩
  cases r1 with
  | cons r rr =>
    cases rr with
    | cons r' rr =>
      cases rr with
      | cons r'' rr =>
        cases rr
        obtain ⟨t, rfl⟩ := r
        obtain ⟨t', rfl⟩ := r'
        obtain ⟨t'', rfl⟩ := r''
        exact call_range_3 c0 (rangeU_it I1 c2 c3 q) (.inl (PyProof.noPylong_small c1))
def iEnum1 (K : PySem.W.Frag) (k : Int) (ta : TA) : TI := fun σ H R => ta σ H fun vs H1 => ∃ a xs, vs = [.ref a] ∧ SqL K H1 a xs ∧ R (Ite1 K k a) H1
/-- a built-in class called with keywords -/
theorem callWith_type_kw {M : Model} {A : Around} {E : Value → Shared → Prop} {s : Shared} {pos : Pos} {T : String} {args : List (Bool × Sem Value)} {kws : List (Option Str × Sem Value)} {Q : Value → Shared → Prop}
    (hplain : args.any (·.1) = false) (hkw : kws.any (·.1.isNone) = false)
    (h : wpAny M A (evalArgs (.type T) true args kws) (fun a s₁ => wpAny M A (call (.type T) a.pos a.kw) Q E s₁) E s) :
    wpAny M A (callWith pos (.type T) [] args kws) Q E s := by
  unfold callWith
  refine wpAny_bind (wpAny_holding (wpAny_mono h (fun a s₁ h₁ => wpAny_bind (wpAny_standAt ?_)) fun _ _ x => x))
  simp only [hplain, hkw, Bool.or_false]
  refine wpAny_bind (wpAny_pure ?_)
  exact wpAny_bind (wpAny_mono h₁ (fun r s₂ hr => wpAny_bind (wpAny_holding (wpAny_point (wpAny_pure hr)))) fun _ _ x => x)
/-- the enumerate object that was made, walked -/
theorem pieU_enum {elts : List Expr} {kk : Nat} {tpos : Pos} {k : Int} {a : Addr} {its : List Value} {h' : Heap} (I : Inv X pins σ H s) (he : IsEnum h' (s.heap.objs.size + 1) s.heap.objs.size k .none) (hit : h'.IsListIter s.heap.objs.size a 0)
    (hk : ∀ b o, s.heap.get? b = some o → h'.get? b = some o) (q : R (Ite1 X.K k a) H) : PIEU QX X pins σ (.Tuple elts kk tpos) R (.ref (s.heap.objs.size + 1)) { s with heap := h' } := by
  refine ⟨s.heap.objs.size + 1, [s.heap.objs.size + 1, s.heap.objs.size], _, _, H, rfl, I.kept (t' := s.toks) hk, turnU_enum k a (s.heap.objs.size + 1) s.heap.objs.size, ⟨⟨.none, ?_⟩, hit, Nat.succ_ne_self _⟩, fun b hb => ?_, q⟩
  · rw [show k + ((0 : Nat) : Int) = k by omega]
    exact he
  · have e' : b = s.heap.objs.size + 1 ∨ b = s.heap.objs.size := by simpa using hb
    have hle : s.heap.objs.size ≤ b := e'.elim (fun z => z ▸ Nat.le_succ _) fun z => z ▸ Nat.le_refl _
    exact I.fpOk hle (I.hok.fresh hle)
theorem piU_enumK {e : Expr} {ta : TA} {p pos tpos kp cp : Pos} {elts : List Expr} {kk : Nat} {k : Int} {cs : Nat} (h0 : -(2 ^ 63) ≤ k) (h1 : k < 2 ^ 63) (hg : Gl X "enumerate") (hm : X.mg "enumerate" = none) (ha : PA X [e] ta) (hs : starEach [e] X.env = [(false, eval e X.env)]) :
    PIU QX X (.Tuple elts kk tpos) (.Call (.Name "enumerate" p) [e] [⟨some "start", .Constant (.int k) cs cp, kp⟩] pos) (iEnum1 X.K k ta) := by
  refine ⟨fun pins s σ H R I h => wpAny_Call_Name_kw (ld_blt I hg hm boot_enumerate (callWith_type_kw (by rw [hs]; rfl) rfl ?_))⟩
  have he : backTo pos (starEach [e] X.env) = (false, eval e X.env) :: [] := by rw [hs]; rfl
  have ha' := fun Q h => ha.run pos pins s σ H Q I h
  rw [he] at ha' ⊢
  refine PyProof.Rows.evalArgs_kwB rfl (thn (ha' _ h) fun us s1 ⟨vs, H1, I1, r1, q1⟩ => ?_)
  refine thn ((pk_cons (nm := some "start") (kpos := kp) pe_int pk_nil).run pos pins s1 σ H1 (fun zs H2 => zs = [.int k] ∧ H2 = H1) I1 ⟨rfl, rfl⟩) ?_
  rintro ws s2 ⟨zs, H2, I2, rz, rfl, rfl⟩
  obtain ⟨a, xs, rfl, hq, q⟩ := q1
  cases r1 with
  | cons r rr =>
    cases rr
    cases r
    cases rz with
    | cons r2 rr2 =>
      cases rr2
      obtain ⟨tk, rfl⟩ := r2
      obtain ⟨its, rv, p', hz⟩ := I2.list hq
      exact enum_begins_start (begins_list a its.toArray) p'.isList h0 h1 fun h' he2 hit hsz hk => wpAny_pyIter_enum he2 (pieU_enum (its := its) I2 he2 ⟨_, hit, rfl, rfl⟩ hk q)
theorem piU_enum0 {e : Expr} {ta : TA} {p pos tpos : Pos} {elts : List Expr} {kk : Nat} (hg : Gl X "enumerate") (hm : X.mg "enumerate" = none) (ha : PA X [e] ta) (hs : starEach [e] X.env = [(false, eval e X.env)]) :
    PIU QX X (.Tuple elts kk tpos) (.Call (.Name "enumerate" p) [e] [] pos) (iEnum1 X.K 0 ta) := by
  refine ⟨fun pins s σ H R I h => Call_ (ld_blt I hg hm boot_enumerate (PyProof.Rows.callWith_type1 (thn (ha.run pos pins s σ H _ I h) ?_) hs rfl))⟩
  rintro us s1 ⟨vs, H1, I1, r1, a, xs, rfl, hq, q⟩
  cases r1 with
  | cons r rr =>
    cases rr
    cases r
    obtain ⟨its, rv, p', hz⟩ := I1.list hq
    refine call_enumerate_list p'.isList fun h' he hit hsz hk => wpAny_pyIter_enum he ?_
    exact pieU_enum (its := its) I1 he hit hk q
end
/-! ### for -/
section
variable {X : Cx} {tg : Expr} {qp : Cx → Prop}
theorem ps_forU {iter : Expr} {body : List Stmt} {wi : TI} {g : TG} {tb : TS} {pos : Pos} (hp : PassesOwn (model X.prog X.w) X.A X.env X.xe) (hc : qp X) (hi : PIU qp X tg iter wi) (hg : PG X tg g) (hb : PSs X body tb)
    (hs : ∀ x, foldedSetIterable iter X.env x = pure x) : PS X (.For tg iter body [] pos) (tFor wi g tb) := by
  refine ⟨fun pins s σ H D I h => wpAny_For (thn (hi.run pins s σ H _ I h) fun v s1 h1 => thn h1 fun itv s2 h2 => ?_) hs⟩
  obtain ⟨it, fp, tn, J, H2, rfl, I2, T, st2, f2, W, ⟨m0, w0⟩, turn⟩ := h2
  have at_ : ∀ {H' : Hp}, (∀ b ∈ fp, H' b = none) → ∀ b ∈ fp, FpOk X pins H' b := fun hn b hb => ⟨hn b hb, (f2 b hb).2⟩
  have hX : X.prog = X.prog ∧ X.w = X.w ∧ X.K = X.K ∧ qp X := ⟨rfl, rfl, rfl, hc⟩
  refine codeAny_forLoop_any (fun n s' => ∃ i σ' H', Inv X pins σ' H' s' ∧ tn i s'.heap ∧ (∀ b ∈ fp, H' b = none) ∧ W i n σ' H') ?_ m0 ⟨0, σ, H2, I2, st2, fun b hb => (f2 b hb).1, w0⟩
  rintro n s3 ⟨i, σ3, H3, I3, st3, n3, w3⟩
  rcases turn i n σ3 H3 w3 with ⟨stop, qn⟩ | ⟨go, N, hN, step⟩
  · refine wpAny_passesOwn hp (thn (T.done X hX i pins s3 σ3 H3 X.xe I3 (at_ n3) st3 stop) ?_)
    rintro r s4 ⟨rfl, I4⟩
    exact wpAny_execs_nil ⟨σ3, H3, I4, qn⟩
  · refine wpAny_passesOwn hp (thn (T.item X hX i pins s3 σ3 H3 X.xe I3 (at_ n3) st3 go) ?_)
    rintro r s4 ⟨u, rfl, h4⟩
    refine wpAny_passesOwn hp (thn h4 fun _ s5 ⟨x, H5, I5, r5, y5, st5, n5⟩ => ?_)
    have I5' := I5.pinned (at_ n5) (T.obj _ _ st5)
    refine wpAny_passesOwn hp (thn (hg.run _ s5 σ3 H5 x u _ I5' r5 (step x H5 y5)) fun _ s6 ⟨σ6, H6, I6, q6⟩ => ?_)
    refine wpAny_passesOwn hp (thn (hb.run _ s6 σ6 H6 _ I6 q6) fun f s7 q7 => ?_)
    have pin7 : ∀ {σ7 : L2.St} {H7 : Hp}, Inv X (pins ++ pinsAt fp s5.heap) σ7 H7 s7 → ∀ b ∈ fp, ∀ o, s5.heap.get? b = some o → s7.heap.get? b = some o ∧ H7 b = none := fun I7 b hb o e =>
      let z := I7.pin (b, o) (List.mem_append_right _ (List.mem_append_right _ (mem_pinsAt hb e)))
      ⟨z.1, z.2.1⟩
    have again : ∀ {σ7 : L2.St} {H7 : Hp}, Inv X (pins ++ pinsAt fp s5.heap) σ7 H7 s7 → N σ7 H7 → ∃ m, m < n ∧ ∃ i σ' H', Inv X pins σ' H' s7 ∧ tn i s7.heap ∧ (∀ b ∈ fp, H' b = none) ∧ W i m σ' H' := fun {σ7 H7} I7 n7 => by
      obtain ⟨m', hm, w7⟩ := hN σ7 H7 n7
      refine ⟨m', hm, i + 1, σ7, H7, I7.unpinned, T.keep _ _ _ st5 fun b hb o e => (pin7 I7 b hb o e).1, fun b hb => ?_, w7⟩
      obtain ⟨o, e, d⟩ := T.obj _ _ st5 b hb
      exact (pin7 I7 b hb o e).2
    cases f with
    | next => obtain ⟨σ7, H7, I7, n7⟩ := q7; exact again I7 n7
    | cont => obtain ⟨σ7, H7, I7, n7⟩ := q7; exact again I7 n7
    | brk => obtain ⟨σ7, H7, I7, q7⟩ := q7; exact ⟨σ7, H7, I7.unpinned, q7⟩
    | ret v => obtain ⟨x7, σ7, H7, I7, r7, q7⟩ := q7; exact ⟨x7, σ7, H7, I7.unpinned, r7, q7⟩
end
end Mi
set_option maxHeartbeats 1000000
/-! Na9: tuple targets, any, all, whether an exception is handled or not; a block of a comprehension. -/
namespace Mi
open PySem PySem.Spec PyProof.Rows L2 L2H HotX
variable {bad : Value → Bool}
theorem Quiet.keeps {A : Around} {h h' : Heap} (z : Quiet A h) (k : ∀ b o, h.get? b = some o → h'.get? b = some o) : Quiet A h' :=
  z.imp id fun ⟨x, e1, o, vs, e2, e3, e4⟩ => ⟨x, e1, o, vs, k x o e2, e3, e4⟩
section
variable {prog : Program} {w : World} {A : Around} {E : Value → Shared → Prop} {s : Shared}
theorem unpackItemsU {t : Addr} {items : Array Value} {Q : List Value → Shared → Prop} (hq : Quiet A s.heap) (ht : IsTup s.heap t items)
    (hQ : ∀ h', Heap.ExtBut s.heap.objs.size s.heap h' → Q items.toList { s with heap := h' }) : wpAny (model prog w) A (unpackItems (.ref t) items.size none) Q E s := by
  have hlt : t ≠ s.heap.objs.size := by obtain ⟨o, ho, _⟩ := ht; exact Nat.ne_of_lt (Heap.lt_size ho)
  unfold unpackItems
  refine wpAny_bind ?_
  · unfold notIterableAtAll
    refine wpAny_bind (wpAny_specialOf ht.typeIs slot_tuple_iter.lookup ?_)
    refine wpAny_pure ?_
    simp only [Bool.false_eq_true, if_false]
    refine wpAny_bind (wpAny_holding (iter_tuple ht ?_))
    refine wpAny_bind (wpAny_holding (draw_tuple hlt items.size 0 _ _ ⟨_, Heap.get?_push_size _ rfl, rfl, rfl⟩ (ht.push _) (by omega) fun h₁ hit₁ hs₁ => ?_))
    have hall : List.take items.size (List.drop 0 items.toList) = items.toList := by
      rw [List.drop_zero]; exact List.take_of_length_le (by simp)
    rw [hall]
    rw [if_neg (by simp)]
    have ht₁ : IsTup h₁ t items := (ht.push _).extBut hs₁.extBut hlt
    have hq₁ : Quiet A h₁ := hq.keeps fun b o e => (hs₁.2 b (Nat.ne_of_lt (Heap.lt_size e))).trans (Heap.get?_push_of_some _ e)
    refine wpAny_bind (wpAny_holding (tuple_end hq₁ hit₁ ht₁ (by simp) fun h₂ he₂ => ?_))
    simp only [Option.isSome_none, Bool.false_eq_true, if_false]
    refine wpAny_pure (hQ h₂ fun b o hb e => he₂ b o hb (hs₁.extBut b o hb (Heap.get?_push_of_some _ e)))
theorem Walks.listQ {I ax : Addr} {q : List Addr} (hne : ax ≠ I) (nq : I ∉ q) (items : Array Value) :
    Walks prog w A I (I :: ax :: q) [I] items.size (fun i v => items[i]? = some v) (fun i h => (h.IsListIter I ax i ∧ h.IsList ax items) ∧ QuietBy A q h) where
  sub := fun b hb => by simp at hb; simp [hb]
  frame := fun _ _ _ st hk => ⟨⟨st.1.1.at fun o e => hk I (by simp) o e, st.1.2.at fun o e => hk ax (by simp) o e⟩, st.2.keeps fun b hb o e => hk b (by simp [hb]) o e⟩
  item := fun i s Q E hi st hQ => by
    refine wpAny_pyNext_list_item st.1.1 st.1.2 (x := items[i]) (by simp [hi]) fun h' hit' hs' => ?_
    exact hQ _ h' s.toks (by simp [hi]) ⟨⟨hit', st.1.2.extBut hs'.extBut hne⟩, st.2.keeps fun b hb o e => (hs'.2 b fun z => nq (z ▸ hb)).trans e⟩ fun b o hb e => hs'.extBut b o (fun h => hb (by simp [h])) e
  done := fun s Q E st hQ => list_end st.2.q st.1.1 st.1.2 (by simp) fun h' he' => hQ h' s.toks fun b o hb e => he' b o (fun h => hb (by simp [h])) e
  self := fun _ _ _ _ st hQ => wpAny_pyIter_listiter st.1.1 hQ
end
section
variable {X : Cx} {pos : Pos}
theorem pg_tupU {es : List Expr} {k : Nat} {t : TGs} {n : Nat} (hc : QX X) (h : PGs X es t)
    (hn : (assignEach es X.env).length = n := by rfl) (hst : (assignEach es X.env).findIdx? (·.1) = none := by rfl) : PG X (.Tuple es k pos) (gTup X.K n t) := by
  refine ⟨fun pins s σ H v u Q I r hw => ?_⟩
  obtain ⟨a, xs, e1, hq, hl, hw⟩ := hw
  subst e1
  cases r
  obtain ⟨its, rv, ht, hz⟩ := I.tuple hq
  have hn2 : (assignEach es X.env).length = its.toArray.size := by simp [hn, ← hl, rv.length]
  rw [assign_Tuple]
  refine wpAny_bind (wpAny_standAt ?_)
  unfold unpack
  rw [hn2, hst]
  refine wpAny_bind (wpAny_holding (unpackItemsU (hc.quiet I) ht fun h' hx => ?_))
  have I1 : Inv X pins σ H { s with heap := h' } := I.kept (t' := s.toks) fun b o e => hx b o (Nat.ne_of_lt (Heap.lt_size e)) e
  exact h.run pins _ σ H xs _ Q I1 (by simpa using rv) hw
theorem quietBy_new {pins : List (Addr × Obj)} {σ : L2.St} {H : Hp} {s : Shared} (hc : QX X) (I : Inv X pins σ H s) : ∃ q, QuietBy X.A q s.heap ∧ s.heap.objs.size ∉ q := by
  obtain ⟨q, z, n⟩ := hc.by I
  exact ⟨q, z, n _ fun p hp => Nat.ne_of_lt (Heap.lt_size (I.pin p hp).1)⟩
theorem cr_anyU (hc : QX X) : CallR X (.builtin "any") (rAny X.K) := by
  intro pins s σ H vs us Q I r h
  obtain ⟨a, bs, rfl, hs, q⟩ := h
  obtain ⟨its, rv, hl, _⟩ := I.list hs
  rw [Vals.ref1 r]
  have hb := rv.bls
  obtain ⟨ql, zq, nq⟩ := quietBy_new hc I
  refine call_any_walk (iter_any hl.isList fun s₂ e2 st hne => ?_)
  subst e2
  refine ⟨_, _, _, _, _, _, _, rfl, Walks.listQ (A := X.A.in1) (q := ql) hne nq its.toArray, ⟨st, zq.keeps fun b hb o e => Heap.get?_push_of_some _ e⟩, truth_bools hb, fun h' tk hk => ?_⟩
  refine ⟨.bl _, H, I.kept fun b o eo => hk b o (fun hmem => ?_) (Heap.get?_push_of_some _ eo), ?_, q⟩
  · rcases List.mem_cons.mp hmem with e1 | hmem
    · exact absurd (e1 ▸ Heap.lt_size eo) (Nat.lt_irrefl _)
    · cases hmem
  · show Value.bool _ = Value.bool _
    rw [← L2.any_range, hb, List.size_toArray, List.length_map]
theorem cr_allU (hc : QX X) : CallR X (.builtin "all") (rAll X.K) := by
  intro pins s σ H vs us Q I r h
  obtain ⟨a, bs, rfl, hs, q⟩ := h
  obtain ⟨its, rv, hl, _⟩ := I.list hs
  rw [Vals.ref1 r]
  have hb := rv.bls
  obtain ⟨ql, zq, nq⟩ := quietBy_new hc I
  refine call_all_walk (iter_any hl.isList fun s₂ e2 st hne => ?_)
  subst e2
  refine ⟨_, _, _, _, _, _, _, rfl, Walks.listQ (A := X.A.in1) (q := ql) hne nq its.toArray, ⟨st, zq.keeps fun b hb o e => Heap.get?_push_of_some _ e⟩, truth_bools hb, fun h' tk hk => ?_⟩
  refine ⟨.bl _, H, I.kept fun b o eo => hk b o (fun hmem => ?_) (Heap.get?_push_of_some _ eo), ?_, q⟩
  · rcases List.mem_cons.mp hmem with e1 | hmem
    · exact absurd (e1 ▸ Heap.lt_size eo) (Nat.lt_irrefl _)
    · cases hmem
  · show Value.bool _ = Value.bool _
    rw [← L2.all_range, hb, List.size_toArray, List.length_map]
end
/-! ### the block of a comprehension, pins and a wish within -/
/-- the frames' head -/
structure Top (X : Cx) (e0 : Env) (r0 : List Env) : Prop where
  st : X.stack = e0 :: r0
  fr : e0.frame = some e0.locals
  top : X.env.frame = e0.frame
abbrev blkU (X : Cx) (s : Shared) (H : Hp) (scope : Scope) (cenv : Env) (fp : List Addr) (pn : List (Addr × Obj)) (xe : Value → Shared → Prop) : Cx := { X.blk s H scope cenv fp with pn := pn, xe := xe }
section
variable {X : Cx} {pins : List (Addr × Obj)} {σ σ' : L2.St} {H H' : Hp} {s s' : Shared}
theorem ok_blkU {scope : Scope} {cenv : Env} {fp : List Addr} {pn : List (Addr × Obj)} {xe : Value → Shared → Prop} (o : (X.blk s H scope cenv fp).Ok) : (blkU X s H scope cenv fp pn xe).Ok :=
  ⟨o.mod, o.kind, o.glob, o.blt, o.above, o.inj, o.has, o.cab, o.hd, o.frames, o.stk, o.exf, o.bs, o.bsz, o.noex, o.exfs, o.funs, o.frf⟩
theorem block_startU {scope : Scope} {own : List (Str × Nat)} {fp : List Addr} {xe : Value → Shared → Prop} (I : Inv X pins σ H s) (ok : BlkOk X.N X.env.scope scope own) (hN : X.N.Nodup) (hfp : ∀ b ∈ fp, FpOk X pins H b ∧ b < s.heap.objs.size) :
    Inv (blkU X s H scope (compEnvC scope (cellsFrom (s.heap.objs.size + 1) scope.names (cloFrom X.env.cells scope.names [])) s.heap.objs.size X.env) fp (X.pn ++ pins) xe) [] (L2.wipe σ (own.map (·.2))) H { s with heap := pushCells (s.heap.push { cls := .type "dict", data := .dict #[] }) scope.names } := by
  have J := block_start I ok hN hfp
  refine ⟨ok_blkU J.ok, J.os, J.bare, J.base, J.loc, J.cell, J.free, J.freeC, fun p hp => ?_, J.hok, J.len⟩
  have hp : p ∈ X.pn ++ pins := by simpa using (show p ∈ (X.pn ++ pins) ++ ([] : List (Addr × Obj)) from hp)
  obtain ⟨e1, e2, e3, e4, e5⟩ := I.pin p hp
  refine ⟨pushCells_keeps _ _ _ _ (Heap.get?_push_of_some _ e1), e2, Nat.ne_of_lt (Heap.lt_size e1), fun hm => ?_, e5⟩
  exact (List.mem_cons.mp (I.stkSub p.1 hm)).elim e3 e4
end
section
variable {X : Cx} {e0 : Env} {r0 : List Env} {a : Addr} {cv : Value} {d : Option Addr} {σ : L2.St} {H : Hp} {pins : List (Addr × Obj)} {B : Heap} {sI s' : Shared} {W : WX}
theorem AirD.noteT {A : Around} {env' : Env} {E : Value → Shared → Prop} {Q : Unit → Shared → Prop} (t : Top X e0 r0) (hfr : A.frames = some X.stack) (he' : env'.frame = X.env.frame) (D : AirD bad X a cv d σ H pins B sI s')
    (h : ∀ h2, HandSPX.HeldZ B X.stack a (Zb bad cv d) e0.locals h2 → s'.heap.UpToSlots h2 → Q () { s' with heap := h2 }) : wpAny (model X.prog X.w) A (noteFrame (.ref a) env') Q E s' := by
  rw [note_as (he'.trans t.top)]
  have sky := D.sky _ (t.top.trans t.fr)
  rw [t.st] at sky hfr h
  rcases sky with ⟨hB, hn, hl, oe, vs, he, hz, hd, h1⟩ | fl | hd
  · exact PXN.look_newZ Zb.one hfr hl t.fr he hB hn hd h1 hz h
  · exact PXN.looks_onZ Zb.one hfr t.fr fl h
  · exact HandSPX.againZ t.fr hd.2.2.2 (h _ hd (Heap.UpToSlots.refl _))
theorem AirD.heldT {h2 : Heap} (t : Top X e0 r0) (D : AirD bad X a cv d σ H pins B sI s') (hh : HandSPX.HeldZ B X.stack a (Zb bad cv d) e0.locals h2) (up : s'.heap.UpToSlots h2) : AirD bad X a cv d σ H pins B sI { s' with heap := h2 } :=
  ⟨D.inv, D.grd, D.up.trans up, fun L hL => .inr (.inr (by rw [show L = e0.locals from Option.some.inj (hL.symm.trans (t.top.trans t.fr))]; exact hh)), D.free, D.os, D.bare⟩
theorem AirD.passT {α : Type} {env' : Env} {A : Around} {what : String} {Q : α → Shared → Prop} {E : Value → Shared → Prop} {h2 : Heap} (t : Top X e0 r0) (he' : env'.frame = X.env.frame) (D : AirD bad X a cv d σ H pins B sI { s' with heap := h2 })
    (hh : HandSPX.HeldZ B X.stack a (Zb bad cv d) e0.locals h2) (h : ∀ s3, AirD bad X a cv d σ H pins B sI s3 → E (.ref a) s3) : wpAny (model X.prog X.w) A (passOn what (.ref a) env' : Sem α) Q E { s' with heap := h2 } := by
  obtain ⟨oe, vs, T, e1, _, e2, e3⟩ := held_tb hh
  unfold PySem.passOn
  refine wpAny_bind (wpAny_field e1 e2 e3 ?_)
  rw [if_neg (show ¬ ((Value.ref T == Value.none) = true) from by simp)]
  rw [he', t.top, t.fr]
  have fin : wpAny (model X.prog X.w) A (setFlight (.ref a) (some e0.locals)) (fun _ s4 => wpAny (model X.prog X.w) A (throw (.ref a) : Sem α) Q E s4) E { s' with heap := h2 } :=
    held_flight (s2 := { s' with heap := h2 }) hh fun h3 hh3 up3 => wpAny_throw (h _ (D.heldT t hh3 up3))
  first
    | exact wpAny_bind fin
    | exact wpAny_bind (wpAny_pure (wpAny_bind fin))
/-- the state without what flies -/
theorem AirD.lowT {h2 : Heap} (D : AirD bad X a cv d σ H pins B sI s') (st : B.StaysIn h2) (up : s'.heap.UpToSlots h2) :
    ∃ G : Heap, Inv X pins σ H { sI with heap := G, gens := s'.gens, drawn := s'.drawn, toks := s'.toks } ∧ (∀ b o, G.get? b = some o → h2.get? b = some o) ∧ (∀ b o, G.get? b = some o → b ∉ frs X.stack → B.get? b = some o) ∧ (∀ b, b ∈ frs X.stack → G.get? b = h2.get? b) := by
  let keepB : Addr → Bool := fun b => (B.get? b).isSome || decide (b ∈ frs X.stack)
  obtain ⟨G, gIn, gOut⟩ := restrict h2 keepB
  have ofB : ∀ b o, B.get? b = some o → G.get? b = some o := fun b o e => (gIn b (by simp [keepB, e])).trans (st b o e)
  have ofF : ∀ b, b ∈ frs X.stack → G.get? b = h2.get? b := fun b hb => gIn b (by simp [keepB, hb])
  have inG : ∀ b o, G.get? b = some o → h2.get? b = some o ∧ keepB b = true := fun b o e => by
    by_cases hq : keepB b = true
    · exact ⟨(gIn b hq).symm.trans e, hq⟩
    · have := gOut b (by simpa using hq)
      rw [e] at this
      exact nomatch this
  have I := D.inv
  have fs : ∀ b o, sI.heap.get? b = some o → b ∈ frs X.stack → ∃ sl, G.get? b = some { o with slots := sl } := fun b o e hb => by
    obtain ⟨_, o1, e1, nf⟩ := I.stack.mem hb
    cases e.symm.trans e1
    obtain ⟨s1, q1⟩ := D.up b _ e nf
    obtain ⟨s2, q2⟩ := up b _ q1 nf
    exact ⟨s2, (ofF b hb).trans q2⟩
  have U : Un (frs X.stack) [] H H sI.heap G := {
    keep := fun b o e n hb _ => ofB b o (D.grd b o e hb)
    slot := fun b o e n hb _ => fs b o e hb
    free := fun b o e n _ => n
    there := fun b o e _ => by
      by_cases hb : b ∈ frs X.stack
      · obtain ⟨sl, q⟩ := fs b o e hb
        exact ⟨_, q⟩
      · exact ⟨o, ofB b o (D.grd b o e hb)⟩
    tups := fun _ _ q => q
    frzs := fun _ _ _ q => q
    tbls := fun _ _ q => ⟨#[], by rw [q]; simp⟩ }
  refine ⟨G, I.call (ch := []) U ((I.inGround D.grd).kept ofB) D.bare (fun _ z => nomatch z), fun b o e => (inG b o e).1, fun b o e hb => ?_, ofF⟩
  obtain ⟨e1, hk⟩ := inG b o e
  have : (B.get? b).isSome = true := by simpa [keepB, hb] using hk
  obtain ⟨o2, q⟩ := Option.isSome_iff_exists.mp this
  cases (st b o2 q).symm.trans e1
  exact q
theorem staysIn_less {B B' h : Heap} (k : ∀ b o, B'.get? b = some o → B.get? b = some o) (st : B.StaysIn h) : B'.StaysIn h := fun b o e => st b o (k b o e)
theorem funFrames_less {h B B' : Heap} (k : ∀ b, B.get? b = none → B'.get? b = none) : ∀ {l : List Env}, h.FunFrames B l → h.FunFrames B' l
  | [], _ => trivial
  | e :: l, ⟨hk, ⟨L, o, hf, hb, ho, nf⟩, hr⟩ => ⟨hk, ⟨L, o, hf, k _ hb, ho, nf⟩, funFrames_less k hr⟩
/-- what is held, when a dict that is no frame has changed -/
theorem held_but {B B' h2 h3 : Heap} {l : List Env} {a C : Addr} {Z : Obj → Prop} {L : Addr} (hh : HandSPX.HeldZ B l a Z L h2) (sb : Heap.SameBut C h2 h3) (nC : ∀ o, h2.get? C = some o → ∀ vs, o.data ≠ .fields vs) (fC : C ∉ frs l)
    (h1 : ∀ b o, B'.get? b = some o → B.get? b = some o ∧ b ≠ C) : HandSPX.HeldZ B' l a Z L h3 := by
  obtain ⟨k1, k2, k3, oe, vs, T, oT, ts, he, hz, hd, hv1, hnT, hTe, hT, hdT, h4⟩ := hh
  have no : ∀ b, B.get? b = none → B'.get? b = none := fun b e => by
    cases q : B'.get? b with
    | none => rfl
    | some o =>
      rw [(h1 b o q).1] at e
      cases e
  have keep : ∀ b o, b ≠ C → h2.get? b = some o → h3.get? b = some o := fun b o hb e => (sb.2 b hb).trans e
  have fr : ∀ {l : List Env}, h2.FunFrames B l → C ∉ frs l → h3.FunFrames B' l := by
    intro l
    induction l with
    | nil => exact fun _ _ => trivial
    | cons e l ih =>
      rintro ⟨hk, ⟨L, o, hf, hb, ho, nf⟩, hr⟩ hC
      have nl : L ≠ C := fun z => hC (List.mem_filterMap.mpr ⟨e, List.mem_cons_self, by rw [hf, z]⟩)
      refine ⟨hk, ⟨L, o, hf, no _ hb, keep _ _ nl ho, nf⟩, ih hr fun hm => hC ?_⟩
      obtain ⟨x, h1, h2⟩ := List.mem_filterMap.mp hm
      exact List.mem_filterMap.mpr ⟨x, List.mem_cons_of_mem _ h1, h2⟩
  have ne : ∀ b o vs, h2.get? b = some o → o.data = .fields vs → b ≠ C := fun b o vs e d z => by
    rw [z] at e
    exact nC o e vs d
  exact ⟨fun b o e => keep b o (h1 b o e).2 (k1 b o (h1 b o e).1), no _ k2, fr k3 fC, oe, vs, T, oT, ts, keep _ _ (ne _ _ _ he hd) he, hz, hd, hv1, no _ hnT, hTe, keep _ _ (ne _ _ _ hT hdT) hT, hdT, h4⟩
end
end Mi
set_option maxHeartbeats 1000000
/-! Na10: list comprehensions that exceptions may leave. -/
namespace Mi
open PySem PySem.Spec PyProof.Rows L2 L2H HotX
variable {bad : Value → Bool}
/-- what a comprehension's block comes to; the block's own environment is told -/
def postX (M : Model) (A : Around) (E : Value → Shared → Prop) (use : Option (Value → Sem Unit)) (Q : Value → Shared → Prop) (acc : Value) (ce : Env) (r : Result) (s' : Shared) : Prop :=
  match r, use with
  | .ok _, none => ∃ m, s'.heap.Ns ce.locals m ∧ ∀ h', Heap.SameBut ce.locals s'.heap h' → Q acc { s' with heap := h' }
  | .ok _, some u => wpAny M A (u acc) (fun _ s'' => ∃ m, s''.heap.Ns ce.locals m ∧ ∀ h', Heap.SameBut ce.locals s''.heap h' → Q .none { s'' with heap := h' }) E s'
  | .error x, _ => ∃ m, s'.heap.Ns ce.locals m ∧ ∀ h', Heap.SameBut ce.locals s'.heap h' → wpAny M A (passOn "comprehension.variables-let-go" x ce : Sem Value) (fun _ _ => False) E { s' with heap := h' }
theorem comp_freeX {M : Model} {A : Around} {E : Value → Shared → Prop} {s : Shared} {env : Env} {e : Expr} {scope : Scope} {pos : Pos} {newAcc first : Sem Value} {g : Comprehension} {gs : List Comprehension} {cl : List (Str × Addr)} {use : Option (Value → Sem Unit)}
    {Q : Value → Shared → Prop}
    (hcl : clausesOf e = g :: gs) (hs : ∀ x, foldedSetIterable g.iter env x = pure x) (hclos : closureFor scope env = pure cl)
    (hkind : scope.kind = .function) (hnames : ∀ x ∈ scope.names, x.2 = .local → scope.names.lookup x.1 = some .local)
    (h : wpAny M A first (fun x s₁ => wpAny M A (pyIter x) (fun it s₂ => wpAny M A newAcc (fun acc s₃ =>
      wpAny M A (newFunctionEnv scope env.globals cl [] env.qual none .none (some env)) (fun cenv s₄ =>
        codeAny M A (.compStart e 0 it acc { cenv with scope := relabel scope env }) (postX M A E use Q acc { cenv with scope := relabel scope env }) s₄) E s₃) E s₂) E s₁) E s) :
    wpAny M A (comprehension e scope env pos newAcc false first use) Q E s := by
  unfold comprehension
  rw [hclos, hcl]
  refine wpAny_bind (wpAny_mono h (fun x s₁ h₁ => wpAny_bind (wpAny_standAt (wpAny_bind (wpAny_of_eq (hs x) (wpAny_bind (wpAny_holding (wpAny_mono h₁ (fun it s₂ h₂ =>
    wpAny_standIf (wpAny_bind (wpAny_mono h₂ (fun acc s₃ h₃ => wpAny_bind (wpAny_pure (wpAny_bind (wpAny_mono h₃ (fun cenv s₄ h₄ => ?_) fun _ _ h' => h')))) fun _ _ h' => h')))
      fun _ _ h' => h'))))))) fun _ _ h' => h')
  dsimp only
  have hv : ∀ x ∈ (scope.names.filter fun x => (x.2 == .local || x.2 == .cell) && x.1 != (".0" : Str)).reverse, x.2 = .local →
      Env.kindOf { cenv with scope := relabel scope env } x.1 = some .local := fun x hx hl => lookup_relabel_local (hnames x (List.mem_filter.mp (List.mem_reverse.mp hx)).1 hl)
  have hv' : ∀ x ∈ (scope.names.filter fun x => (x.2 == .local || x.2 == .cell) && x.1 != (".0" : Str)).reverse.drop 1 ++ (scope.names.filter fun x => (x.2 == .local || x.2 == .cell) && x.1 != (".0" : Str)).reverse.take 1,
      x.2 = .local → Env.kindOf { cenv with scope := relabel scope env } x.1 = some .local := fun x hx hl => by
    rcases List.mem_append.mp hx with h1 | h1
    · exact hv x (List.mem_of_mem_drop h1) hl
    · exact hv x (List.mem_of_mem_take h1) hl
  refine wpAny_holding (wpAny_bind (wpAny_attempt (wpAny_holding (wpAny_run (codeAny_mono h₄ fun r s' hr => ?_)))))
  cases r with
  | ok f =>
    cases use with
    | none =>
      obtain ⟨m, hn, hr⟩ := hr
      exact wpAny_bind (wpAny_holding (wpAny_comp_letGo (cenv := { cenv with scope := relabel scope env }) hkind _ s' m hv hn fun h' m' _ hs' => wpAny_pure (hr h' hs')))
    | some u =>
      refine wpAny_bind (wpAny_rule (wpAny_bind (wpAny_holding (wpAny_mono hr (fun _ s'' hr' => ?_) fun _ _ h' => h'))))
      obtain ⟨m, hn, hr'⟩ := hr'
      exact wpAny_bind (wpAny_comp_letGo (cenv := { cenv with scope := relabel scope env }) hkind _ s'' m hv' hn fun h' m' _ hs' => wpAny_pure (hr' h' hs'))
  | error x =>
    have hr' : ∃ m, s'.heap.Ns cenv.locals m ∧ ∀ h', Heap.SameBut cenv.locals s'.heap h' → wpAny M A (passOn "comprehension.variables-let-go" x { cenv with scope := relabel scope env } : Sem Value) (fun _ _ => False) E { s' with heap := h' } := by cases use <;> exact hr
    obtain ⟨m, hn, hr⟩ := hr'
    exact wpAny_bind (wpAny_holding (wpAny_comp_letGo (cenv := { cenv with scope := relabel scope env }) hkind _ s' m hv hn fun h' m' _ hs' => wpAny_mono (hr h' hs') (fun _ _ f => f.elim) fun _ _ y => y))
section
variable {X : Cx} {e0 : Env} {r0 : List Env} {a : Addr} {cv : Value} {d : Option Addr} {σ σ' : L2.St} {H3 H' : Hp} {pins pn pinsY : List (Addr × Obj)} {B : Heap} {sI s' s3 : Shared} {W : WX} {scope : Scope} {ce : Env} {fp : List Addr} {xe : Value → Shared → Prop}
/-- what flies out of a block -/
theorem air_comp {use : Option (Value → Sem Unit)} {Q : Value → Shared → Prop} {acc : Value} (t : Top X e0 r0) (tk : Tk bad X W) (hce : ce.frame = X.env.frame) (hC : ce.locals = s3.heap.objs.size) (I3 : Inv X pins σ H3 s3) (f3 : ∀ b ∈ fp, FpOk X pins H3 b ∧ b < s3.heap.objs.size)
    (D : AirD bad (blkU X s3 H3 scope ce fp pn xe) a cv d σ' H' pinsY B sI s') (w : W cv d σ H') :
    notedBy (model X.prog X.w) X.A ce (fun e s'' => postX (model X.prog X.w) X.A X.xe use Q acc ce (.error e) s'') (.ref a) s' := by
  have tY : Top (blkU X s3 H3 scope ce fp pn xe) e0 r0 := ⟨t.st, t.fr, hce.trans t.top⟩
  unfold notedBy
  refine D.noteT (X := blkU X s3 H3 scope ce fp pn xe) tY I3.ok.frames rfl fun h2 hh up => ?_
  obtain ⟨G, J, gUp, gB, gF⟩ := D.lowT hh.1 up
  obtain ⟨m, hn, _⟩ := id J.loc
  have hn2 : h2.Ns ce.locals m := hn.keeps gUp
  have pp : ∀ {r : Result}, r = .error (.ref a) → (∃ m, h2.Ns ce.locals m ∧ ∀ h', Heap.SameBut ce.locals h2 h' → wpAny (model X.prog X.w) X.A (passOn "comprehension.variables-let-go" (.ref a) ce : Sem Value) (fun _ _ => False) X.xe { s' with heap := h' }) → postX (model X.prog X.w) X.A X.xe use Q acc ce r { s' with heap := h2 } := fun {r} e h => by
    subst e
    cases use <;> exact h
  refine pp rfl ⟨m, hn2, fun h3 sb => ?_⟩
  obtain ⟨B', bIn, bOut⟩ := restrict B fun b => decide (b ≠ ce.locals)
  obtain ⟨G', gIn, gOut⟩ := restrict G fun b => decide (b ≠ ce.locals)
  have bL : ∀ b o, B'.get? b = some o → B.get? b = some o ∧ b ≠ ce.locals := fun b o e => by
    by_cases hb : b = ce.locals
    · rw [bOut b (by simp [hb])] at e
      cases e
    · exact ⟨(bIn b (by simp [hb])).symm.trans e, hb⟩
  have gL : ∀ b o, G'.get? b = some o → G.get? b = some o ∧ b ≠ ce.locals := fun b o e => by
    by_cases hb : b = ce.locals
    · rw [gOut b (by simp [hb])] at e
      cases e
    · exact ⟨(gIn b (by simp [hb])).symm.trans e, hb⟩
  have gK : ∀ b o, b ≠ ce.locals → G.get? b = some o → G'.get? b = some o := fun b o hb e => (gIn b (by simp [hb])).trans e
  have old : ∀ b o, s3.heap.get? b = some o → b ≠ ce.locals := fun b o e z => by
    have := Heap.lt_size e
    rw [z, hC] at this
    exact Nat.lt_irrefl _ this
  have base := J.base
  have U : Un (frs X.stack) fp H3 H' s3.heap G' := {
    keep := fun b o e n hb hx => gK b o (old b o e) (base.keep b o e n hb hx)
    slot := fun b o e n hb hx => (base.slot b o e n hb hx).imp fun sl q => gK b _ (old b o e) q
    free := base.free
    there := fun b o e hx => (base.there b o e hx).imp fun o2 q => gK b _ (old b o e) q
    tups := base.tups
    frzs := base.frzs
    tbls := base.tbls }
  have hok : HOk X.prog X.w H' G' := fun b o e => by
    refine (show ObjOk X.prog X.w H' G b o from J.hok b o e).stay (fun c u hc q => gK c u (fun z => ?_) q) (fun _ q => q) fun _ _ q => q
    have hf : H' ce.locals = none := J.free
    rw [← z] at hf
    rcases hc with hc | hc
    · rw [hc, e] at hf
      cases hf
    · rw [hc] at hf
      cases hf
  have os3 : s'.os = s3.os := D.os.trans J.os
  have Jx : Inv X pins σ H' { s' with heap := G' } := I3.call' (s' := { s' with heap := G' }) (ch := fp) os3 U hok D.bare fun b hb => ⟨(f3 b hb).1.2.2.2.1, (f3 b hb).1.2.1, (f3 b hb).1.2.2.2.2.1, (f3 b hb).1.2.2.2.2.2⟩
  have nC : ∀ o, h2.get? ce.locals = some o → ∀ vs, o.data ≠ .fields vs := fun o e vs z => by
    obtain ⟨o3, es, ep, ho3, hd3, _⟩ := hn2
    rw [ho3] at e
    cases e
    rw [hd3] at z
    cases z
  have fC : ce.locals ∉ frs X.stack := fun hm => by
    obtain ⟨_, o1, e1, _⟩ := I3.stack.mem hm
    exact old _ _ e1 rfl
  have hh3 : HandSPX.HeldZ B' X.stack a (Zb bad cv d) e0.locals h3 := held_but hh sb nC fC bL
  have D' : AirD bad X a cv d σ H' pins B' { s' with heap := G' } { s' with heap := h3 } :=
    ⟨Jx, fun b o e hb => (bIn b (by simp [(gL b o e).2])).trans (gB b o (gL b o e).1 hb), Heap.UpToSlots.of_keeps fun b o e => (sb.2 b (gL b o e).2).trans (gUp b o (gL b o e).1), fun L hL => .inr (.inr (by rw [show L = e0.locals from Option.some.inj (hL.symm.trans (t.top.trans t.fr))]; exact hh3)), D.free, rfl, D.bare⟩
  exact AirD.passT (s' := s') t hce D' hh3 fun s4 D4 => D4.taken tk w
end
section
variable {X : Cx} {e0 : Env} {r0 : List Env}
theorem lc_coreU {pins : List (Addr × Obj)} {s : Shared} {σ : L2.St} {H : Hp} {Q : VK} {W : WX} {elt tg iter : Expr} {ifs : List Expr} {scope : Scope} {own : List (Str × Nat)} {pos pos' : Pos} {wi : TI} {g : TG} {tt : TT} {te : TE} {use : Option (Value → Sem Unit)} {Qf : Value → Shared → Prop} {qp : Cx → Prop}
    (hc : ∀ (s : Shared) (H : Hp) (C : Addr) (cl : List (Str × Addr)) (fp : List Addr) (pn : List (Addr × Obj)) (xe : Value → Shared → Prop), (∀ p ∈ X.pn, p ∈ pn) → qp (blkU X s H scope (compEnvC scope cl C X.env) fp pn xe))
    (t : Top X e0 r0) (tk : Tk bad X W) (hN : X.N.Nodup) (I : Inv X pins σ H s) (hi : PIU qp X tg iter wi) (ok : BlkOk X.N X.env.scope scope own)
    (hg : ∀ (s : Shared) (H : Hp) (C : Addr) (cl : List (Str × Addr)) (fp : List Addr) (pn : List (Addr × Obj)) (xe : Value → Shared → Prop), (∀ p ∈ X.pn, p ∈ pn) → Tk bad (blkU X s H scope (compEnvC scope cl C X.env) fp pn xe) (fun cv d _ H' => W cv d σ H') → PG (blkU X s H scope (compEnvC scope cl C X.env) fp pn xe) tg g)
    (ht : ∀ (s : Shared) (H : Hp) (C : Addr) (cl : List (Str × Addr)) (fp : List Addr) (pn : List (Addr × Obj)) (xe : Value → Shared → Prop), (∀ p ∈ X.pn, p ∈ pn) → Tk bad (blkU X s H scope (compEnvC scope cl C X.env) fp pn xe) (fun cv d _ H' => W cv d σ H') → PTs (blkU X s H scope (compEnvC scope cl C X.env) fp pn xe) ifs tt)
    (he : ∀ (s : Shared) (H : Hp) (C : Addr) (cl : List (Str × Addr)) (fp : List Addr) (pn : List (Addr × Obj)) (xe : Value → Shared → Prop), (∀ p ∈ X.pn, p ∈ pn) → Tk bad (blkU X s H scope (compEnvC scope cl C X.env) fp pn xe) (fun cv d _ H' => W cv d σ H') → PE (blkU X s H scope (compEnvC scope cl C X.env) fp pn xe) elt te)
    (hs : ∀ x, foldedSetIterable iter X.env x = pure x)
    (h : tLc wi g tt te (own.map (·.2)) σ H Q)
    (hRR : ∀ D (ce : Env) s' m H', Inv X pins σ H' s' → Q (.ref D) H' → s'.heap.Ns ce.locals m → FpOk X pins H' ce.locals → postX (model X.prog X.w) X.A X.xe use Qf (.ref D) ce (.ok .next) s') :
    wpAny (model X.prog X.w) X.A (comprehension (.ListComp elt [⟨tg, iter, ifs, 0⟩] scope pos) scope X.env pos' (newList []) false (eval iter X.env) use) Qf X.xe s := by
  have hfree : ∀ y ∈ scope.names, y.2 = .free → ∃ c, X.env.cells.lookup y.1 = some c := fun y hy e => by
    rcases ok.free y hy e with k | k
    · exact I.ok.has _ (.inl k)
    · exact I.ok.has _ (.inr k)
  refine comp_freeX (use := use) rfl hs (closure_ok hfree) ok.kind (fun y hy e => by rw [ok.uniq y hy, e])
    (thn (hi.run pins s σ H _ I h) fun xv s1 hx => thn hx fun itv s2 h2 => ?_)
  obtain ⟨it, fp, tn, J, H2, e, I2, T, st2, f2, q⟩ := h2
  subst e
  refine wpAny_newObj_type (newEnv_comp ?_) (by show 0 ≤ sizeLine; decide)
  generalize hD : s2.heap.objs.size = D
  have hDn : H2 D = none := I2.hok.fresh (Nat.le_of_eq hD)
  obtain ⟨Wn, ⟨m0, w0⟩, turn⟩ := q D hDn
  generalize hs3 : ({ s2 with heap := s2.heap.push { cls := .type "list", data := .seq ([] : List Value).toArray } } : Shared) = s3
  have I3 : Inv X pins σ (upd H2 D (.lst [])) s3 := by
    rw [← hs3]
    refine I2.laid (t' := s2.toks) (fun b o e => Heap.get?_push_of_some _ e) (Nat.le_of_eq hD) ⟨Nat.zero_le _, [], 0, .nil, ?_⟩
    rw [← hD]
    exact Heap.get?_push_size _ rfl
  have h3 : s3.heap = s2.heap.push { cls := .type "list", data := .seq ([] : List Value).toArray } := by rw [← hs3]
  have sz : ∀ b ∈ fp, b < s2.heap.objs.size := fun b hb => by
    obtain ⟨o, e, _⟩ := T.obj _ _ st2 b hb
    exact Heap.lt_size e
  have f3 : ∀ b ∈ fp, FpOk X pins (upd H2 D (.lst [])) b ∧ b < s3.heap.objs.size := fun b hb => by
    have hlt := sz b hb
    refine ⟨⟨?_, (f2 b hb).2⟩, by rw [h3, Heap.size_push]; exact Nat.lt_succ_of_lt hlt⟩
    rw [upd_ne (by rw [← hD]; exact Nat.ne_of_lt hlt)]
    exact (f2 b hb).1
  have st3 : tn 0 s3.heap := T.keep _ _ _ st2 fun b _ o e => by rw [h3]; exact Heap.get?_push_of_some _ e
  let Wb : WX := fun cv d _ H' => W cv d σ H'
  let ce0 := compEnvC scope (cellsFrom (s3.heap.objs.size + 1) scope.names (cloFrom X.env.cells scope.names [])) s3.heap.objs.size X.env
  let xe : Value → Shared → Prop := Air bad (blkU X s3 (upd H2 D (.lst [])) scope ce0 fp (X.pn ++ pins) fun _ _ => False) Wb
  have sub : ∀ p ∈ X.pn, p ∈ X.pn ++ pins := fun p hp => List.mem_append_left _ hp
  have tkY : Tk bad (blkU X s3 (upd H2 D (.lst [])) scope ce0 fp (X.pn ++ pins) xe) Wb := fun u s1 z => by
    obtain ⟨b, cv, d, σ1, H1, pn1, B, sI, e, D, w⟩ := z
    exact ⟨b, cv, d, σ1, H1, pn1, B, sI, e, ⟨D.inv.wish _, D.grd, D.up, D.sky, D.free, D.os, D.bare⟩, w⟩
  have I4 : Inv (blkU X s3 (upd H2 D (.lst [])) scope ce0 fp (X.pn ++ pins) xe) [] (L2.wipe σ (own.map (·.2))) (upd H2 D (.lst [])) { s3 with heap := pushCells (s3.heap.push { cls := .type "dict", data := .dict #[] }) scope.names } := block_startU (xe := xe) I3 ok hN f3
  have qY : qp (blkU X s3 (upd H2 D (.lst [])) scope ce0 fp (X.pn ++ pins) xe) := hc _ _ _ _ _ _ _ sub
  have pg : PG (blkU X s3 (upd H2 D (.lst [])) scope ce0 fp (X.pn ++ pins) xe) tg g := hg s3 (upd H2 D (.lst [])) s3.heap.objs.size (cellsFrom (s3.heap.objs.size + 1) scope.names (cloFrom X.env.cells scope.names [])) fp (X.pn ++ pins) xe sub tkY
  have pt : PTs (blkU X s3 (upd H2 D (.lst [])) scope ce0 fp (X.pn ++ pins) xe) ifs tt := ht s3 (upd H2 D (.lst [])) s3.heap.objs.size (cellsFrom (s3.heap.objs.size + 1) scope.names (cloFrom X.env.cells scope.names [])) fp (X.pn ++ pins) xe sub tkY
  have pe : PE (blkU X s3 (upd H2 D (.lst [])) scope ce0 fp (X.pn ++ pins) xe) elt te := he s3 (upd H2 D (.lst [])) s3.heap.objs.size (cellsFrom (s3.heap.objs.size + 1) scope.names (cloFrom X.env.cells scope.names [])) fp (X.pn ++ pins) xe sub tkY
  show codeAny _ _ (.compStart (.ListComp elt [⟨tg, iter, ifs, 0⟩] scope pos) 0 (.ref it) (.ref D) ce0) (postX (model X.prog X.w) X.A X.xe use Qf (.ref D) ce0) { s3 with heap := pushCells (s3.heap.push { cls := .type "dict", data := .dict #[] }) scope.names }
  have nfp : ∀ b ∈ fp, (upd H2 D (.lst [])) b = none := fun b hb => (f3 b hb).1.1
  have hcf : ce0.frame = X.env.frame := rfl
  have cL : ce0.locals = s3.heap.objs.size := rfl
  have airs : ∀ {u : Value} {s1 : Shared}, xe u s1 → notedBy (model X.prog X.w) X.A ce0 (fun e s'' => postX (model X.prog X.w) X.A X.xe use Qf (.ref D) ce0 (.error e) s'') u s1 := fun {u s1} z => by
    obtain ⟨b, cv, d, σ1, H1, pn1, B, sI, rfl, D1, w1⟩ := z
    exact air_comp t tk hcf cL I3 f3 D1 w1
  generalize hce : ce0 = ce at I4 pg pt pe qY cL hcf airs ⊢
  generalize hH3 : upd H2 D (.lst []) = H3 at I3 I4 pg pt pe w0 nfp f3 qY
  generalize hs4 : ({ s3 with heap := pushCells (s3.heap.push { cls := .type "dict", data := .dict #[] }) scope.names } : Shared) = s4 at I4 ⊢
  have st4 : tn 0 s4.heap := T.keep _ _ _ st3 fun b _ o e => by rw [← hs4]; exact pushCells_keeps _ _ _ _ (Heap.get?_push_of_some _ e)
  have xeq : ∀ {u : Value} {s1 : Shared}, (blkU X s3 H3 scope ce fp (X.pn ++ pins) xe).xe u s1 → notedBy (model X.prog X.w) X.A ce (fun e s'' => postX (model X.prog X.w) X.A X.xe use Qf (.ref D) ce (.error e) s'') u s1 := airs
  have stat : ∀ {σ' : L2.St} {H' : Hp} {s' : Shared}, Inv (blkU X s3 H3 scope ce fp (X.pn ++ pins) xe) [] σ' H' s' → (∀ b ∈ fp, H' b = none) → ∀ b ∈ fp, FpOk (blkU X s3 H3 scope ce fp (X.pn ++ pins) xe) [] H' b := fun {σ' H' s'} I' hn b hb =>
    ⟨hn b hb, (I'.ok.exf b hb).1, I'.ok.exfs b hb, .inl hb, fun x c e => (I'.ok.exf b hb).2 x c e, fun p hp => (f3 b hb).1.2.2.2.2.2 p (by simpa using (show p ∈ (X.pn ++ pins) ++ ([] : List (Addr × Obj)) from hp))⟩
  have hX : (blkU X s3 H3 scope ce fp (X.pn ++ pins) xe).prog = X.prog ∧ (blkU X s3 H3 scope ce fp (X.pn ++ pins) xe).w = X.w ∧ (blkU X s3 H3 scope ce fp (X.pn ++ pins) xe).K = X.K ∧ qp (blkU X s3 H3 scope ce fp (X.pn ++ pins) xe) := ⟨rfl, rfl, rfl, qY⟩
  have loop : codeAny (model X.prog X.w) X.A (.compLoop (.ListComp elt [⟨tg, iter, ifs, 0⟩] scope pos) 0 (.ref it) (.ref D) ce) (postX (model X.prog X.w) X.A X.xe use Qf (.ref D) ce) s4 := by
    refine compLoop_any (fun n s' => ∃ i H', Inv (blkU X s3 H3 scope ce fp (X.pn ++ pins) xe) [] (L2.wipe σ (own.map (·.2))) H' s' ∧ tn i s'.heap ∧ (∀ b ∈ fp, H' b = none) ∧ Wn i n H') ?_ m0 ⟨0, H3, I4, st4, nfp, w0⟩
    rintro n s5 ⟨i, H5, I5, st5, n5, w5⟩
    rcases turn i n H5 w5 with ⟨stop, qq⟩ | ⟨go, Nx, hNx, step⟩
    · have td := T.done (blkU X s3 H3 scope ce fp (X.pn ++ pins) xe) hX i [] s5 _ H5 (fun _ _ => False) I5 (stat I5 n5) st5 stop
      refine thnF td fun r s6 ⟨hr, I6⟩ => ?_
      subst hr
      have I7 : Inv X pins σ H5 s6 := I3.call' (ch := fp) I6.os I6.base I6.hok I6.bare fun b hb => ⟨(f3 b hb).1.2.2.2.1, (f3 b hb).1.2.1, (f3 b hb).1.2.2.2.2.1, (f3 b hb).1.2.2.2.2.2⟩
      have nC : H5 s3.heap.objs.size = none := by
        have z : H5 ce.locals = none := I6.free
        rw [cL] at z
        exact z
      obtain ⟨m, hn, _⟩ := I6.loc
      exact hRR D ce s6 m H5 I7 qq hn (by rw [cL]; exact I3.fpOk (Nat.le_refl _) nC)
    · have ti := T.item (blkU X s3 H3 scope ce fp (X.pn ++ pins) xe) hX i [] s5 _ H5 (fun _ _ => False) I5 (stat I5 n5) st5 go
      refine thnF ti fun r s6 ⟨u, hr, h6⟩ => ?_
      subst hr
      refine thnF h6 fun _ s7 ⟨x, H7, I7, r7, y7, st7, n7⟩ => ?_
      have I7' := I7.pinned (stat I7 n7) (T.obj _ _ st7)
      refine wpAny_mono (pg.run _ s7 _ H7 x u _ I7' r7 (step x H7 y7)) (fun _ s8 ⟨σ8, H8, I8, hw8, q8⟩ => ?_) fun _ _ z => xeq z
      refine wpAny_mono (pt.run _ s8 σ8 H8 _ I8 q8) (fun b s9 ⟨H9, I9, q9⟩ => ?_) fun _ _ z => xeq z
      have fin : ∀ {s' : Shared} {H' : Hp}, Inv (blkU X s3 H3 scope ce fp (X.pn ++ pins) xe) ([] ++ pinsAt fp s7.heap) σ8 H' s' → Nx H' → ∃ m, m < n ∧ ∃ i H', Inv (blkU X s3 H3 scope ce fp (X.pn ++ pins) xe) [] (L2.wipe σ (own.map (·.2))) H' s' ∧ tn i s'.heap ∧ (∀ b ∈ fp, H' b = none) ∧ Wn i m H' := fun {s' H'} I' nx => by
        obtain ⟨m', hm, w'⟩ := hNx H' nx
        have pin' : ∀ b ∈ fp, ∀ o, s7.heap.get? b = some o → s'.heap.get? b = some o ∧ H' b = none := fun b hb o e =>
          let z := I'.pin (b, o) (List.mem_append_right _ (List.mem_append_right _ (mem_pinsAt hb e)))
          ⟨z.1, z.2.1⟩
        have hl : (L2.wipe σ (own.map (·.2))).length = σ8.length := by rw [← hw8, wipe_length]
        refine ⟨m', hm, i + 1, H', (I'.unpinned (pins := [])).weak hl (fun j v e => ?_), T.keep _ _ _ st7 fun b hb o e => (pin' b hb o e).1, fun b hb => ?_, w'⟩
        · rw [← hw8] at e
          exact (wipe_some e).1
        · obtain ⟨o, e, _⟩ := T.obj _ _ st7 b hb
          exact (pin' b hb o e).2
      cases b with
      | false =>
        simp only [Bool.false_eq_true, if_false] at q9 ⊢
        exact fin I9 q9
      | true =>
        simp only [if_true] at q9 ⊢
        refine wpAny_mono (pe.run _ s9 σ8 H9 _ I9 q9) (fun z s10 ⟨yv, H10, I10, r10, acc, hD10, hz10, nx⟩ => ?_) fun _ _ z => xeq z
        exact app_ok (X := blkU X s3 H3 scope ce fp (X.pn ++ pins) xe) I10 hD10 hz10 r10 fun s11 I11 => fin I11 nx
  exact codeAny_compStart_list loop (T.self X.A 0 _ _ _ st4 loop)
/-- the families that a comprehension's block asks -/
structure LcH (bad : Value → Bool) (qp : Cx → Prop) (X : Cx) (W : WX) (scope : Scope) (tg elt : Expr) (ifs : List Expr) (g : L2.St → TG) (tt : L2.St → TT) (te : L2.St → TE) : Prop where
  q : ∀ (s : Shared) (H : Hp) (C : Addr) (cl : List (Str × Addr)) (fp : List Addr) (pn : List (Addr × Obj)) (xe : Value → Shared → Prop), (∀ p ∈ X.pn, p ∈ pn) → qp (blkU X s H scope (compEnvC scope cl C X.env) fp pn xe)
  g : ∀ (σ : L2.St) (s : Shared) (H : Hp) (C : Addr) (cl : List (Str × Addr)) (fp : List Addr) (pn : List (Addr × Obj)) (xe : Value → Shared → Prop), (∀ p ∈ X.pn, p ∈ pn) → Tk bad (blkU X s H scope (compEnvC scope cl C X.env) fp pn xe) (fun cv d _ H' => W cv d σ H') → PG (blkU X s H scope (compEnvC scope cl C X.env) fp pn xe) tg (g σ)
  t : ∀ (σ : L2.St) (s : Shared) (H : Hp) (C : Addr) (cl : List (Str × Addr)) (fp : List Addr) (pn : List (Addr × Obj)) (xe : Value → Shared → Prop), (∀ p ∈ X.pn, p ∈ pn) → Tk bad (blkU X s H scope (compEnvC scope cl C X.env) fp pn xe) (fun cv d _ H' => W cv d σ H') → PTs (blkU X s H scope (compEnvC scope cl C X.env) fp pn xe) ifs (tt σ)
  e : ∀ (σ : L2.St) (s : Shared) (H : Hp) (C : Addr) (cl : List (Str × Addr)) (fp : List Addr) (pn : List (Addr × Obj)) (xe : Value → Shared → Prop), (∀ p ∈ X.pn, p ∈ pn) → Tk bad (blkU X s H scope (compEnvC scope cl C X.env) fp pn xe) (fun cv d _ H' => W cv d σ H') → PE (blkU X s H scope (compEnvC scope cl C X.env) fp pn xe) elt (te σ)
/-- as a value -/
theorem pe_lcU {W : WX} {qp : Cx → Prop} {elt tg iter : Expr} {ifs : List Expr} {scope : Scope} {own : List (Str × Nat)} {pos : Pos} {wi : TI} {g : L2.St → TG} {tt : L2.St → TT} {te : L2.St → TE} (t : Top X e0 r0) (tk : Tk bad X W) (hN : X.N.Nodup) (hi : PIU qp X tg iter wi) (ok : BlkOk X.N X.env.scope scope own)
    (hh : LcH bad qp X W scope tg elt ifs g tt te) (hs : ∀ x, foldedSetIterable iter X.env x = pure x) :
    PE X (.ListComp elt [⟨tg, iter, ifs, 0⟩] scope pos) (fun σ H Q => tLc wi (g σ) (tt σ) (te σ) (own.map (·.2)) σ H Q) := by
  refine ⟨fun pins s σ H Q I h => ?_⟩
  rw [eval_ListComp]
  refine lc_coreU hh.q t tk hN I hi ok (hh.g σ) (hh.t σ) (hh.e σ) hs h fun D C s' m H' I' q hn f => ⟨m, hn, fun h'' sb => ?_⟩
  obtain ⟨f0, f1, f2, f3, f4, f5⟩ := f
  exact ⟨.ref D, H', I'.turned (t' := s'.toks) (fun b o hb e => (sb.2 b hb).trans e) f0 f1 f3 f4 f5, rfl, q⟩
/-- name = [..] on one line, the name a local -/
theorem ps_setLcU {W : WX} {qp : Cx → Prop} {i : Nat} {y : Str} {py : Pos} {elt tg iter : Expr} {ifs : List Expr} {scope : Scope} {own : List (Str × Nat)} {pos spos : Pos} {wi : TI} {g : L2.St → TG} {tt : L2.St → TT} {te : L2.St → TE} (t : Top X e0 r0) (tk : Tk bad X W) (hN : X.N.Nodup) (hy : X.N[i]? = some y) (hyl : X.env.scope.names.lookup y = some .local)
    (hsw : swapsWith (.ListComp elt [⟨tg, iter, ifs, 0⟩] scope pos) (some (.Name y py)) spos.line X.env = pure true) (hi : PIU qp X tg iter wi) (ok : BlkOk X.N X.env.scope scope own)
    (hh : LcH bad qp X W scope tg elt ifs g tt te) (hs : ∀ x, foldedSetIterable iter X.env x = pure x) :
    PS X (.Assign [.Name y py] (.ListComp elt [⟨tg, iter, ifs, 0⟩] scope pos) spos) (fun D σ H => tLc wi (g σ) (tt σ) (te σ) (own.map (·.2)) σ H fun x H1 => gName i x σ H1 D.nx) := by
  refine ⟨fun pins s σ H D I h => ?_⟩
  rw [exec_Assign_Name_used _ _ _ _ hsw]
  refine wpAny_bind (wpAny_standAt (wpAny_bind ?_))
  show wpAny _ X.A (do let _ ← comprehension (.ListComp elt [⟨tg, iter, ifs, 0⟩] scope pos) scope X.env (firstIterPos [⟨tg, iter, ifs, 0⟩] pos) (newList []) false (eval iter X.env) (some (assign (.Name y py) X.env))) _ _ s
  refine wpAny_bind (thn (lc_coreU (Qf := fun _ s' => SP X pins D .next s') hh.q t tk hN I hi ok (hh.g σ) (hh.t σ) (hh.e σ) hs h fun L ce s' m H' I' q hn f => ?_) fun _ s' hq => wpAny_pure (wpAny_pure hq))
  show wpAny _ _ (assign (.Name y py) X.env (.ref L)) _ _ _
  refine wpAny_assign_Name (store_ok2 (v := V.ref L) I' hN hy (.inl hyl) rfl (fun s2 I2 ⟨a, sb, ha⟩ => ?_) (.inr hyl))
  obtain ⟨f0, f1, f2, f3, f4, f5⟩ := f
  have haC : ce.locals ≠ a := by
    rcases ha with z | z
    · rw [z]; exact f1
    · exact fun e => f4 y a z e.symm
  refine ⟨m, hn.sameBut sb haC, fun h3 sb3 => ?_⟩
  exact ⟨_, H', I2.turned (t' := s2.toks) (fun b o hb e => (sb3.2 b hb).trans e) f0 f1 f3 f4 f5, q⟩
end
end Mi
set_option maxHeartbeats 1000000
/-! Na11: len(set(xs)) of texts, no two alike. -/
namespace Mi
open PySem PySem.Spec PyProof.Rows L2 L2H SS
theorem any_take_nodup {xs : List Str} (h : xs.Nodup) {i : Nat} (hi : i < xs.length) : ((xs.take i).any (· == xs[i])) = false := by
  cases hb : (xs.take i).any (· == xs[i]) with
  | false => rfl
  | true =>
    obtain ⟨y, hy, ey⟩ := List.any_eq_true.mp hb
    have ey2 : y = xs[i] := eq_of_beq ey
    rw [ey2] at hy
    obtain ⟨j, hj⟩ := List.mem_iff_getElem?.mp hy
    rw [List.getElem?_take] at hj
    split at hj
    · rename_i hji
      obtain ⟨hjl, ej⟩ := List.getElem?_eq_some_iff.mp hj
      exact absurd ej (List.pairwise_iff_getElem.mp h j i hjl hi hji)
    · cases hj
section
variable {prog : Program} {w : World} {A : Around} {R : Result → Shared → Prop} {I : Addr} {fp wr : List Addr} {G : Array GenState → Array GenState → Prop} {n : Nat} {P : Nat → Value → Prop} {St : Nat → Shared → Prop}
theorem setTexts_loop (W : WalksS prog w A.in1 I fp wr G n P St) (S : Addr) (hSf : S ∉ fp) (xs : List Str) (hsz : xs.length = n) (hn1 : n ≤ 4000) (hnd : xs.Nodup)
    (hval : ∀ i v, P i v → ∃ t, v = .str (xs.getD i Str.empty) t) :
    ∀ (k i : Nat) (s : Shared), n - i = k → i ≤ n → St i s →
      s.heap.SetOf (PySem.strKind prog w) S (fun k' => (xs.take i).any (· == k')) i →
      (∀ s', Moved (S :: wr) G s s' → s'.heap.SetOf (PySem.strKind prog w) S (fun k' => (xs.take n).any (· == k')) n → R (.ok (.ret .none)) s') →
      codeAny (model prog w) A (.builtin "set.update.loop" ⟨[.ref S, .ref I], []⟩) R s := by
  have hSw : S ∉ wr := fun h => hSf (W.sub _ h)
  have hsub : ∀ b ∈ wr, b ∈ S :: wr := fun b hb => List.mem_cons_of_mem _ hb
  intro k
  induction k with
  | zero =>
    intro i s hk hi hst hS hR
    have hin : i = n := by omega
    subst hin
    refine codeAny_builtin PyProof.Rows.F.entry_set_update_loop ?_
    rw [Around.under_plainId PyProof.Rows.F.plain_set_update_loop _]
    show wpAny _ A.in1 (pyNext (.ref I) >>= _) _ _ s
    refine wpAny_bind (W.done s _ _ hst fun s' hm => ?_)
    show wpAny _ A.in1 (ret Value.none) _ _ s'
    exact wpAny_pure (hR s' (hm.mono hsub) (by
      obtain ⟨o, es, ep, t, ho, rest⟩ := hS
      exact ⟨o, es, ep, t, hm.heap S _ hSw ho, rest⟩))
  | succ k ih =>
    intro i s hk hi hst hS hR
    have hlt : i < n := by omega
    refine codeAny_builtin PyProof.Rows.F.entry_set_update_loop ?_
    rw [Around.under_plainId PyProof.Rows.F.plain_set_update_loop _]
    show wpAny _ A.in1 (pyNext (.ref I) >>= _) _ _ s
    refine wpAny_bind (W.item i s _ _ hlt hst fun v s' hP hst' hm => ?_)
    obtain ⟨t, rfl⟩ := hval i v hP
    have hS' : s'.heap.SetOf (PySem.strKind prog w) S (fun k' => (xs.take i).any (· == k')) i := by
      obtain ⟨o, es, ep, tb, ho, rest⟩ := hS
      exact ⟨o, es, ep, tb, hm.heap S _ hSw ho, rest⟩
    show wpAny _ A.in1 (holding [Value.str (xs.getD i Str.empty) t] (setAdd S (.str (xs.getD i Str.empty) t)) >>= _) _ _ s'
    refine wpAny_bind (wpAny_holding ?_)
    unfold setAdd
    refine wpAny_holding ?_
    refine wpAny_bind ((PySem.strKind prog w).pyHash (k := xs.getD i Str.empty) (strKind_is _ _ _ _) ?_)
    refine wpAny_setAddHashed_of (knd := PySem.strKind prog w) (s := { s' with toks := s'.toks + 1 }) (strKind_is _ _ _ _) rfl hS' (by unfold scanBound; omega) fun h' hsb hS2 => ?_
    have hSi : h'.SetOf (PySem.strKind prog w) S (fun k' => (xs.take (i + 1)).any (· == k')) (i + 1) := by
      have hx : i < xs.length := by omega
      have eg : xs.getD i Str.empty = xs[i] := by
        rw [List.getD_eq_getElem?_getD, List.getElem?_eq_getElem hx]
        all_goals rfl
      have et : xs.take (i + 1) = xs.take i ++ [xs[i]] := by
        rw [List.take_add_one, List.getElem?_eq_getElem hx]
        all_goals rfl
      have no : ((xs.take i).any (· == xs.getD i Str.empty)) = false := by
        rw [eg]
        exact any_take_nodup hnd hx
      refine SetOf_congr hS2 (fun k' => ?_) (by rw [no]; rfl)
      rw [et, List.any_append, eg]
      show _ = (_ || (xs[i] == k' || false))
      rw [Bool.or_false]
      congr 1
      by_cases e : k' = xs[i]
      · rw [decide_eq_true e, e]
        exact (beq_self_eq_true _).symm
      · rw [decide_eq_false e]
        exact (beq_eq_false_iff_ne.mpr fun z => e z.symm).symm
    refine wpAny_pure ⟨plainId_quiet PyProof.Rows.F.plain_set_update_loop _, ih (i + 1) _ (by omega) hlt (W.frame _ s' _ _ hst' (Nat.le_succ _) fun b hb o e => ?_) hSi fun s'' hm'' hS'' => ?_⟩
    · rw [hsb.2 b (fun h : b = S => hSf (by rw [← h]; exact hb))]; exact e
    · refine hR s'' (Moved.trans W.gtrans ((hm.mono hsub).then_heap (Nat.le_succ _) fun b o hb e => ?_) hm'') hS''
      rw [hsb.2 b (fun h : b = S => hb (by rw [h]; exact List.mem_cons_self))]; exact e
end
section
variable {prog : Program} {w : World} {A : Around} {E : Value → Shared → Prop} {s : Shared}
set_option maxHeartbeats 3200000 in
theorem call_setTexts {l : Addr} {items : Array Value} {xs : List Str} {Q : Value → Shared → Prop}
    (hh : A.handled = none) (hl : s.heap.IsList l items) (hi : PyProof.Rows.StrsAre items.toList xs) (hn1 : xs.length ≤ 4000) (hnd : xs.Nodup)
    (h : ∀ (h' : Heap) (tk : Nat), h'.SetOf (PySem.strKind prog w) s.heap.objs.size (fun k' => (xs.take items.size).any (· == k')) items.size →
      (∀ b o, b < s.heap.objs.size → s.heap.get? b = some o → h'.get? b = some o) → Q (.ref s.heap.objs.size) { s with heap := h', toks := tk }) :
    wpAny (model prog w) A (call (.type "set") [.ref l]) Q E s := by
  obtain ⟨c, tl, hmro⟩ := PySem.F.called_set.mro
  have hmade := PySem.F.called_set.made
  have hsub := PySem.F.called_set.sub
  refine wpAny_call (codeAny_of_tree ?_)
  show wpAny _ _ (callAny (.type "set") _) _ _ _
  refine wpAny_pure ⟨Code.quiet_builtin _ (by decide +kernel), codeAny_builtin PySem.F.entry_type_call ?_⟩
  rw [Around.under_plain (weight_type_call_type "set" [.ref l] []) rfl]
  have h1 := PySem.F.called_set.notType
  have h2 := PySem.F.called_set.canCreate
  have hct := PySem.F.typeCall_set_1 (.ref l)
  repeat (any_goals (first | assumption | wp_step))

  refine codeAny_mono (code_set_new_1 (.ref l) (E := E) (Q₁ := fun obj s₁ => ∃ led : Bool, obj = .ref s.heap.objs.size ∧ s₁ = { s with heap := s.heap.push { cls := .type "set", dict := none, data := .set #[] 0 (.fresh 0 0 led) } }) fun led => ⟨led, rfl, rfl⟩) fun r s₁ hr => ?_
  cases r with
  | error e => exact hr
  | ok fl =>
    cases fl with
    | ret obj =>
      obtain ⟨led, rfl, rfl⟩ := hr
      have hS : (s.heap.push { cls := .type "set", dict := none, data := .set #[] 0 (.fresh 0 0 led) }).get? s.heap.objs.size = some { cls := .type "set", dict := none, data := .set #[] 0 (.fresh 0 0 led) } := Heap.get?_push_size _ rfl
      have hT : Shared.TypeIs { s with heap := s.heap.push { cls := .type "set", dict := none, data := .set #[] 0 (.fresh 0 0 led) } } (.ref s.heap.objs.size) "set" := ⟨_, hS, rfl⟩
      have hli := PySem.F.called_set.init.lookup
      have hbi := PySem.F.called_set.init.bind (.ref s.heap.objs.size)
      repeat (any_goals (first | assumption | wp_step))

      refine codeAny_mono (codeAny_call_builtin (R := wants (fun r s₂ => r = .none ∧ ∃ h' tk, s₂ = { s with heap := h', toks := tk } ∧
          h'.SetOf (PySem.strKind prog w) s.heap.objs.size (fun k' => (xs.take items.size).any (· == k')) items.size ∧
          (∀ b o, b < s.heap.objs.size → s.heap.get? b = some o → h'.get? b = some o)) E) PySem.F.called_set.init.plain PySem.F.entry_set_init (check_set_init_1 hT ?_)) fun r₂ s₂ hr₂ => ?_
      · obtain ⟨ol, hol, hcl, nl, hdl⟩ := hl
        obtain ⟨ocls, odict, odata, oslots⟩ := ol
        simp only at hcl hdl
        subst hcl; subst hdl
        have hol' : (s.heap.push { cls := .type "set", dict := none, data := .set #[] 0 (.fresh 0 0 led) }).get? l = some { cls := .type "list", dict := odict, data := .seq items nl, slots := oslots } := Heap.get?_push_of_some _ hol
        have hsls := PySem.F.sub_list_set
        have hslf := PySem.F.sub_list_frozenset
        have hne : (Value.type "list" == Value.type "dict") = false := by decide
        have hl1 : (s.heap.push { cls := .type "set", dict := none, data := .set #[] 0 (.fresh 0 0 led) }).IsList l items := ⟨_, hol', rfl, nl, rfl⟩
        unfold Builtin.«set.__init__» noKeywords Builtin.Frozenset.updateFrom
        generalize hPI : pyIter = PI
        wp_walk
        subst hPI

        refine wpAny_pyIter_list hl1 ?_
        refine wpAny_bind (wpAny_runValue ?_)
        have hlS : l < s.heap.objs.size := Heap.lt_size hol
        have hh3 : A.in1.in1.in1.handled = none := by simp [hh]
        have hneI : l ≠ (s.heap.push { cls := .type "set", dict := none, data := .set #[] 0 (.fresh 0 0 led) }).objs.size := by
          rw [Heap.size_push]; exact Nat.ne_of_lt (Nat.lt_succ_of_lt hlS)
        have hSf : s.heap.objs.size ∉ [(s.heap.push { cls := .type "set", dict := none, data := .set #[] 0 (.fresh 0 0 led) }).objs.size, l] := by
          rw [Heap.size_push]; simp only [List.mem_cons, List.mem_singleton, List.not_mem_nil, or_false, not_or]
          exact ⟨Nat.ne_of_lt (Nat.lt_succ_self _), Nat.ne_of_gt hlS⟩
        have hsz : xs.length = items.size := by rw [← StrsAre.len_eq hi, Array.length_toList]
        have hval : ∀ (i : Nat) (v : Value), items[i]? = some v → ∃ t, v = .str (xs.getD i Str.empty) t := fun i v hv => strs_at hi i v (by rw [Array.getElem?_toList]; exact hv)
        refine setTexts_loop ((Walks.list hh3 _ l hneI items).toS) s.heap.objs.size
          hSf xs hsz (by rw [← hsz]; exact hn1) hnd hval (items.size - 0) 0 _ (by omega) (Nat.zero_le _)
          ⟨⟨_, Heap.get?_push_size _ rfl, rfl, rfl⟩, (hl1.push _)⟩ ?hS0 ?hR
        case hS0 =>
          have hget : ((s.heap.push { cls := .type "set", dict := none, data := .set #[] 0 (.fresh 0 0 led) }).push { cls := .type "list_iterator", data := .fields #[.ref l, .int 0 0] }).get? s.heap.objs.size
              = some { cls := .type "set", dict := none, data := .set #[] 0 (.fresh 0 0 led) } := Heap.get?_push_of_some _ hS
          exact PyProof.Rows.SetOf_congr ((PyProof.Rows.setObjOf_fresh (knd := PySem.strKind prog w) led).setOf hget (by unfold scanBound; omega)) (fun _ => rfl) rfl
        case hR =>
          intro s' hm hS'
          obtain ⟨h', g', d', tk', os'⟩ := s'
          have eg : g' = s.gens := hm.gens
          have ed : d' = s.drawn := hm.drawn
          have eo : os' = s.os := hm.os
          subst eg; subst ed; subst eo
          show wpAny _ _ _ _ _ _
          refine wpAny_pure ?_
          show wpAny _ _ (ret Value.none) _ _ _
          refine wpAny_pure ⟨rfl, h', tk', rfl, hS', fun b o hb e => ?_⟩
          have hb1 : b ≠ s.heap.objs.size := Nat.ne_of_lt hb
          have hb2 : b ≠ (s.heap.push { cls := .type "set", dict := none, data := .set #[] 0 (.fresh 0 0 led) }).objs.size := by
            rw [Heap.size_push]; exact Nat.ne_of_lt (Nat.lt_succ_of_lt hb)
          exact hm.heap b o (by simp only [List.mem_cons, List.mem_singleton, List.not_mem_nil, or_false, not_or]; exact ⟨hb1, hb2⟩) (Heap.get?_push_of_some _ (Heap.get?_push_of_some _ e))

      · cases r₂ with
        | error e => exact hr₂
        | ok fl₂ =>
          cases fl₂ with
          | ret r =>
            obtain ⟨rfl, h', tk, rfl, hS', hk'⟩ := hr₂
            repeat (any_goals (first | assumption | wp_step))
            exact h _ _ hS' hk'
          | _ => exact hr₂.elim
    | _ => exact hr.elim

end
/-- len(set(xs)), xs a list of texts, no two alike -/
def tLenTexts (K : PySem.W.Frag) (ta : TE) : TE := fun σ H Q => ta σ H fun x H1 => ∃ (l : Addr) (xs : List Str), x = .ref l ∧ SqL K H1 l (xs.map V.str) ∧ xs.length ≤ 4000 ∧ xs.Nodup ∧ Q (.int (xs.length : Nat)) H1
theorem pe_lenTexts {X : Cx} {a : Expr} {ta : TE} {p p2 q pos : Pos} (hc : X.calm = true) (hg : Gl X "len") (hm : X.mg "len" = none) (hg2 : Gl X "set") (hm2 : X.mg "set" = none) (ha : PE X a ta)
    (na : starEach [a] X.env = (false, eval a X.env) :: starEach [] X.env) : PE X (.Call (.Name "len" p) [.Call (.Name "set" p2) [a] [] q] [] pos) (tLenTexts X.K ta) := by
  refine ⟨fun pins s σ H Q I h => ?_⟩
  refine Call_ (ld_blt I hg hm boot_len ?_)
  refine PyProof.Rows.callWith_builtin1 (PyProof.Rows.args_cons ?_ rfl) rfl rfl
  refine Call_ (ld_blt I hg2 hm2 boot_set ?_)
  refine PyProof.Rows.callWith_type1 (PyProof.Rows.args_cons (thn (ha.run pins s σ H _ I h) fun v s1 ⟨x, H1, I1, r1, q1⟩ => PyProof.Rows.args_nil ?_) na) na rfl
  obtain ⟨l, xs, rfl, hq, h1, hnd, q1⟩ := q1
  cases r1
  obtain ⟨its, r, pl, hz⟩ := I1.list hq
  refine call_setTexts (I1.ok.hd hc) pl.isList (by simpa using strsAre_of r) h1 hnd fun h' tk hS hk => PyProof.Rows.args_nil ?_
  have hl : its.toArray.size = xs.length := by rw [List.size_toArray, ← r.length, List.length_map]
  rw [hl] at hS
  obtain ⟨o, es, ep, t, ho, hex, hd, _, _, _, hf, hn⟩ := hS
  have I2 : Inv X pins σ H1 { s1 with heap := h', toks := tk } := I1.kept fun b o e => hk b o (Heap.lt_size e) e
  exact call_len_set ho hex hd hf (by rw [hn] <;> omega) ⟨.int xs.length, H1, I2.tok _, ⟨_, by rw [hn]⟩, q1⟩
end Mi
set_option maxHeartbeats 1000000
/-! Na12: list(reversed(xs)). -/
namespace Mi
open PySem PySem.W PySem.Calls PySem.Spec PyProof.Rows PyProof.V L2 L2H RT
section
variable {prog : Program} {w : World} {A : Around} {E : Value → Shared → Prop} {s : Shared} {it l : Addr} {items : Array Value}
theorem listRev_init {R : Result → Shared → Prop} (hh : A.handled = none) (hit : s.heap.IsRevIter it l ((items.size : Int) - 1)) (hl : s.heap.IsList l items) (hne : l ≠ it) (hn : items.size ≤ sizeLine) (S : Addr) (hSi : S ≠ it) (hSl : S ≠ l) (hS : s.heap.get? S = some { cls := .type "list", data := .seq #[] })
    (hR : ∀ h' tk acc' c', (∀ b o, b ≠ S → b ≠ it → s.heap.get? b = some o → h'.get? b = some o) → h'.get? S = some { cls := .type "list", dict := none, data := .seq acc' c', slots := #[] } → ItemsOf (fun i v => items[items.size - 1 - i]? = some v) acc' items.size → R (.ok (.ret .none)) { s with heap := h', toks := tk }) :
    wpAny (model prog w) A.in1 (Builtin.«list.__init__» ⟨[.ref S, .ref it], []⟩)
      (fun fin s' => match fin with | .done f => R (.ok f) s' | .again c' => c'.quiet = true ∧ codeAny (model prog w) A c' R s') (fun e s' => R (.error e) s') s := by
  show wpAny _ _ (do let old ← Builtin.List.listItems (.ref S); Builtin.List.listUpdate (.ref S) (fun _ => #[]); letGo old.toList.reverse; Builtin.List.listExtendWith (.ref S) (.ref it) .none) _ _ s
  refine wpAny_bind ?_
  unfold Builtin.List.listItems
  refine wpAny_bind (wpAny_seqItems hS rfl (wpAny_pure ?_))
  show wpAny _ _ (updateSeq S (fun _ => #[]) >>= fun _ => letGo (#[] : Array Value).toList.reverse >>= fun _ => Builtin.List.listExtendWith (.ref S) (.ref it) .none) _ _ s
  refine wpAny_bind (wpAny_updateSeq hS rfl ?_)
  have hS₂ := Heap.get?_update_self (Obj.mapSeq (fun _ => (#[] : Array Value))) hS rfl
  have oth : ∀ b o, b ≠ S → s.heap.get? b = some o → (s.heap.update S (Obj.mapSeq (fun _ => (#[] : Array Value)))).get? b = some o :=
    fun b o hb e => (Heap.get?_update_other _ _ (Ne.symm hb)).trans e
  refine wpAny_bind (wpAny_letGo ?_)
  generalize hh2 : s.heap.update S (Obj.mapSeq (fun _ => (#[] : Array Value))) = h2 at hS₂ oth ⊢
  have hit1 : h2.IsRevIter it l ((items.size : Int) - 1) := hit.at fun o e => oth _ o (Ne.symm hSi) e
  have hl1 : h2.IsList l items := hl.at fun o e => oth _ o (Ne.symm hSl) e
  have W := (Walks.listRev (prog := prog) (w := w) (A := A.in1) hh it l hne items).toS
  have hSf : S ∉ [it, l] := by simp only [List.mem_cons, List.not_mem_nil, or_false, not_or]; exact ⟨hSi, hSl⟩
  have hT : ({ s with heap := h2 } : Shared).TypeIs (.ref it) "list_reverseiterator" := Heap.IsRevIter.typeIs (s := { s with heap := h2 }) hit1
  have h1 : Builtin.List.listSameRef (.ref S) (.ref it) = false := by simp [Builtin.List.listSameRef, hSi]
  unfold Builtin.List.listExtendWith
  refine wpAny_bind (wpAny_typeOf hT ?_)
  rw [if_neg (by rw [h1]; decide)]
  refine wpAny_bind (wpAny_pyIter_revIter (s := { s with heap := h2 }) hit1 ?_)
  refine wpAny_bind (wpAny_holding ?_)
  unfold Builtin.List.listLengthHint
  refine wpAny_bind (wpAny_specialOf hT nolen_lri ?_)
  show wpAny _ A.in1 (specialOf (Value.ref it) (Str.ofString "__length_hint__") >>= _) _ _ _
  refine wpAny_bind (wpAny_specialOf hT hint_lri ?_)
  generalize hid : ("list_reverseiterator.__length_hint__" : String) = id0
  wp_delta
  rw [show splitId id0 = some ("list_reverseiterator", "__length_hint__") from by subst hid; decide +kernel]
  subst hid
  refine wpAny_bind (wpAny_isInstance (b := true) hT (by rw [isSubtype_type]; kernel_rfl) ?_)
  refine wpAny_pure ?_
  rw [if_neg (by decide)]
  have e0 : ((items.size : Nat) : Int) - 1 - ((0 : Nat) : Int) = (items.size : Int) - 1 := by omega
  refine wpAny_pure ⟨plainId_quiet F.plain_extend_loop _, codeAny_extend_loopS W hn _ hSf _ items.size 0 _ _ _ rfl (Nat.zero_le _) ⟨Nat.zero_le _, by rw [e0]; exact hit1, hl1⟩ hS₂ (ItemsOf.nil _) fun s' acc' c' hm hS' hacc => ?_⟩
  rw [Moved.eq_with hm]
  refine hR s'.heap s'.toks acc' c' (fun b o hb hbi e => hm.heap b o (fun hmem => ?_) (oth b o hb e)) hS' hacc
  rcases List.mem_cons.mp hmem with e' | hmem
  · exact hb e'
  · exact hbi (List.mem_singleton.mp hmem)
theorem call_listRev {Q : Value → Shared → Prop} (hh : A.handled = none) (hit : s.heap.IsRevIter it l ((items.size : Int) - 1)) (hl : s.heap.IsList l items) (hne : l ≠ it) (hn : items.size ≤ sizeLine)
    (hQ : ∀ h' tk acc' c', (∀ b o, b ≠ it → s.heap.get? b = some o → h'.get? b = some o) → h'.get? s.heap.objs.size = some { cls := .type "list", dict := none, data := .seq acc' c', slots := #[] } → ItemsOf (fun i v => items[items.size - 1 - i]? = some v) acc' items.size → Q (.ref s.heap.objs.size) { s with heap := h', toks := tk }) :
    wpAny (model prog w) A (call (.type "list") [.ref it]) Q E s := by
  refine callType_codes (Q₁ := fun obj s₁ => obj = .ref s.heap.objs.size ∧ s₁ = { s with heap := s.heap.push { cls := .type "list", data := .seq #[] } }) PySem.F.called_list (PySem.F.typeCall_list_1 _) PySem.F.entry_list_init
    (code_list_new _ ⟨rfl, rfl⟩) fun obj s₁ h₁ => ?_
  obtain ⟨rfl, rfl⟩ := h₁
  have hS : (s.heap.push { cls := .type "list", data := .seq #[] }).get? s.heap.objs.size = some { cls := .type "list", data := .seq #[] } := Heap.get?_push_size _ rfl
  obtain ⟨oi, hoi, _⟩ := id hit
  obtain ⟨ol, hol, _⟩ := id hl
  refine ⟨⟨_, hS, rfl⟩, PySem.F.args_list_init_2 _ _, listRev_init (A := A.in1) hh (hit.at fun o e => Heap.get?_push_of_some _ e) (hl.push _) hne hn _ (Nat.ne_of_gt (Heap.lt_size hoi)) (Nat.ne_of_gt (Heap.lt_size hol)) hS (fun h' tk acc' c' hk hS' hacc => ?_)⟩
  exact ⟨rfl, hQ h' tk acc' c' (fun b o hb e => hk b o (Nat.ne_of_lt (Heap.lt_size e)) hb (Heap.get?_push_of_some _ e)) hS' hacc⟩
end
/-- list(reversed(x)), x a list: a new list -/
def tListRev (K : PySem.W.Frag) (te : TE) : TE := fun σ H Q => te σ H fun v H1 => ∃ (a : Addr) (xs : List V), v = .ref a ∧ SqL K H1 a xs ∧ ∀ q, H1 q = none → Q (.ref q) (upd H1 q (.lst xs.reverse))
section
variable {X : Cx}
theorem pe_listRev {e : Expr} {te : TE} {p p2 pos pos2 : Pos} (hc : X.calm = true) (hg : Gl X "list") (hm : X.mg "list" = none) (hg2 : Gl X "reversed") (hm2 : X.mg "reversed" = none) (he : PE X e te)
    (hs : starEach [e] X.env = (false, eval e X.env) :: starEach [] X.env)
    (hs2 : starEach [.Call (.Name "reversed" p2) [e] [] pos2] X.env = (false, eval (.Call (.Name "reversed" p2) [e] [] pos2) X.env) :: starEach [] X.env) :
    PE X (.Call (.Name "list" p) [.Call (.Name "reversed" p2) [e] [] pos2] [] pos) (tListRev X.K te) := by
  refine ⟨fun pins s σ H Q I h => ?_⟩
  refine Call_ (ld_blt I hg hm boot_list (PyProof.Rows.callWith_type1 (args_cons (Call_ (ld_blt I hg2 hm2 PyProof.Rows.boot_reversed (PyProof.Rows.callWith_type1 (args_cons (thn (he.run pins s σ H _ I h) fun u s1 ⟨v, H1, I1, r1, q1⟩ => args_nil ?_) hs) hs rfl))) hs2) hs2 rfl))
  obtain ⟨a, xs, ev, hq, q⟩ := q1
  subst ev
  obtain rfl : u = Value.ref a := r1
  obtain ⟨its, rv, p', hz⟩ := I1.list hq
  refine call_reversed_list p'.isList (args_nil ?_)
  have k0 : ∀ b o, s1.heap.get? b = some o → (s1.heap.push (revObj a ((its.toArray.size : Int) - 1))).get? b = some o := fun b o e => Heap.get?_push_of_some _ e
  have I2 : Inv X pins σ H1 { s1 with heap := s1.heap.push (revObj a ((its.toArray.size : Int) - 1)) } := I1.kept (t' := s1.toks) k0
  obtain ⟨f0, f1, f2, f3, f4, f5⟩ := I1.fpOk (H' := H1) (b := s1.heap.objs.size) (Nat.le_refl _) (I1.hok.fresh (Nat.le_refl _))
  have hl := p'.isList
  obtain ⟨ol, hol, _⟩ := id hl
  have hne : a ≠ s1.heap.objs.size := Nat.ne_of_lt (Heap.lt_size hol)
  have hn : its.toArray.size ≤ sizeLine := by rw [List.size_toArray, ← rv.length]; exact hz
  refine call_listRev (s := { s1 with heap := s1.heap.push (revObj a ((its.toArray.size : Int) - 1)) }) (I1.ok.hd hc) ⟨_, Heap.get?_push_size _ rfl, rfl, rfl⟩ (hl.push _) hne hn fun h' tk acc c' hk hD hi => ?_
  have hD0 : H1 (s1.heap.push (revObj a ((its.toArray.size : Int) - 1))).objs.size = none := I1.hok.fresh (by rw [Heap.size_push]; exact Nat.le_succ _)
  have new : ObjOk X.prog X.w (upd H1 (s1.heap.push (revObj a ((its.toArray.size : Int) - 1))).objs.size (.lst xs.reverse)) h' (s1.heap.push (revObj a ((its.toArray.size : Int) - 1))).objs.size (.lst xs.reverse) :=
    ⟨by rw [List.length_reverse]; exact hz, acc.toList, c', vals_rev rv hi, by rw [Array.toArray_toList]; exact hD⟩
  have I3 := I2.turnedNew (t' := tk) (ch := [s1.heap.objs.size]) (fun b o hb e => hk b o (fun z => hb (by simp [z])) e) (fun b hb => by
    cases List.mem_singleton.mp hb
    exact ⟨f0, f1, f2, f3, f4, f5⟩) (Nat.le_refl _) new
  exact ⟨.ref _, _, I3, rfl, q _ hD0⟩
end
end Mi
/-! Mi: a small interpreter over a store, to stand for the walks. -/
namespace Mi
open PySem PySem.Spec PyProof.Rows L2

/-- what stands in the store -/
inductive IO where
  | lst (xs : List V)
  | tup (xs : List V)
  | fro (xs : List V)
  | dK (kvs : List (Key × V))
  | dT (kvs : List (List Key × V))
  | ins (c : Str) (fs : List (Str × V))
  | exc (c : Str) (fs : List (Str × V))
  | dfn (f : Str)
  | dead

abbrev Store := List IO
abbrev Ev := List (Option V)

/-- how a piece of syntax ends: values (an expression: one); a statement's next, its return; an exception (class, fields, slots); not told -/
inductive R where
  | val (vs : List V) (st : Store)
  | nxt (env : Ev) (st : Store)
  | ret (v : V) (st : Store)
  | exc (c : Str) (fs : List (Str × V)) (env : Ev) (st : Store)
  | stk

def R.b1 (r : R) (k : V → Store → R) : R := match r with
  | .val [v] st => k v st
  | .exc c fs env st => .exc c fs env st
  | _ => .stk
def R.bs (r : R) (k : List V → Store → R) : R := match r with
  | .val vs st => k vs st
  | .exc c fs env st => .exc c fs env st
  | _ => .stk
def R.bn (r : R) (k : Ev → Store → R) : R := match r with
  | .nxt env st => k env st
  | .ret v st => .ret v st
  | .exc c fs env st => .exc c fs env st
  | _ => .stk

/-- how it stands: on false: nothing is handled; on true: an exception whose context is None is handled; ine: one of which nothing more is known -/
inductive Mo where
  | on (h : Bool)
  | ine
  deriving DecidableEq
def Mo.q : Mo → Bool
  | .on _ => true
  | .ine => false

/-- what a for walks -/
inductive Ik where
  | seq | rng1 | rng2 | rngd | enum1 | lstk | tupk | strk | nok
  deriving DecidableEq
/-- a target -/
inductive Tg where
  | n (i : Nat)
  | t (is : List Nat)
  deriving DecidableEq
/-- built-in functions and types that are called -/
inductive Bi where
  | len | list | any | all | str | int | abs | sum | tuple | reversed
  deriving DecidableEq

/-- types that isinstance asks for; what a value is of -/
inductive Ty where
  | int | str | bool | list | tuple | dict | none
  deriving DecidableEq

/-- methods of built-in types -/
inductive Mt where
  | lAppend | lClear | lPop | lExtend | lIndex | dGet | dPop | sJoin | sLines | sZfill
  deriving DecidableEq

inductive T where
  | nev
  | var (i : Nat)
  | cst (v : V)
  | glo (x : Str)
  | bin (op : Operator) (a b : T)
  | neg (a : T)
  | not (a : T)
  | and (a b : T)
  | or (a b : T)
  | cmp (op : CmpOp) (a b : T)
  | cmp2 (op op' : CmpOp) (a b c : T)
  | ife (c a b : T)
  | nil
  | cons (a as : T)
  | som (a : T)
  | tup (as : T)
  | lst (as : T)
  | dic0
  | call (f : Str) (as : T)
  | bif (f : Bi) (as : T)
  | isi (a : T) (t : Ty)
  | meth (m : Str) (o as : T)
  | bm (m : Mt) (o as : T)
  | mk (c : Str) (as : T)
  | cm (c m : Str) (as : T)
  | lset (a : T)
  | rsl (a : T)
  | lrev (a : T)
  | fld (o : T) (f : Str)
  | fldX (o : T) (f : Str)
  | idx (a i : T)
  | slc (a lo hi : T)
  | lc (own : List Nat) (tg : Tg) (k : Ik) (a ifs e : T)
  -- statements
  | don
  | seq (a b : T)
  | asgN (i : Nat) (e : T)
  | asgT (is : List Nat) (e : T)
  | asgF (o : T) (f : Str) (e : T)
  | asgI (o i e : T)
  | aug (i : Nat) (op : Operator) (e : T)
  | augF (o : T) (f : Str) (e : T)
  | drop (e : T)
  | ret (e : T)
  | retN
  | ifs (c a b : T)
  | for (tg : Tg) (k : Ik) (a b : T)
  | whl (c b : T)
  | raiM (c : Str)
  | rai (c : Str) (a : T)
  | raiF (c : Str) (a : T) (i : Nat)
  | tri (b : T) (c1 : Str) (n1 : Option Nat) (s1 : T) (o2 : Option (Str × Option Nat)) (s2 : T) (oe : T)
  | isc (a : T) (c : Str)
  | iscs (a : T) (cs : List Str)

/-! ### operations on values -/
def sz : Nat := 16777216
def one (v : V) (st : Store) : R := .val [v] st
def new (o : IO) (st : Store) : R := .val [.ref st.length] (st ++ [o])

def mulOk (i j : Int) : Bool := decide (i.natAbs < 2 ^ 64) || decide (j.natAbs < 2 ^ 64) || decide ((Builtin.Int.intBits i : Int) + (Builtin.Int.intBits j : Int) ≤ 134217728)
def smallI (i : Int) : Bool := decide (i.natAbs < 2 ^ 64)

def binD (op : Operator) (x y : V) (st : Store) : R := match op, x, y with
  | .Add, .int i, .int j => one (.int (i + j)) st
  | .Add, .str a, .str b => if a.length + b.length ≤ sz then one (.str (a ++ b)) st else .stk
  | .Add, .ref p, .ref q => match st[p]?, st[q]? with
    | some (.lst xs), some (.lst ys) => if xs.length + ys.length ≤ sz then new (.lst (xs ++ ys)) st else .stk
    | _, _ => .stk
  | .Sub, .int i, .int j => one (.int (i - j)) st
  | .Mult, .int i, .int j => if mulOk i j then one (.int (i * j)) st else .stk
  | .FloorDiv, .int i, .int j => if j ≠ 0 ∧ j.natAbs < 1073741824 then one (.int (i.fdiv j)) st else if 0 < j ∧ j.natAbs.log2 < 9000 then one (.int (i / j)) st else if j ≠ 0 ∧ j.natAbs.log2 < 9000 then one (.int (i.fdiv j)) st else .stk
  | .Mod, .int i, .int j => if j ≠ 0 then one (.int (i.fmod j)) st else .stk
  | .Pow, .int i, .int j => if 0 ≤ j ∧ j ≤ 1000000 ∧ i.natAbs < 2 ^ 64 then one (.int (i ^ j.toNat)) st else .stk
  | .BitAnd, .int i, .int j => one (.int (Builtin.bitAnd i j)) st
  | .BitOr, .int i, .int j => one (.int (Builtin.bitOr i j)) st
  | .BitXor, .int i, .int j => one (.int (Builtin.bitXor i j)) st
  | .LShift, .int i, .int j => if 0 ≤ j ∧ (Builtin.Int.intBits i : Int) + j ≤ 2 ^ 27 then one (.int (i * 2 ^ j.toNat)) st else .stk
  | .Mult, .str x, .int n => if -(2 ^ 63) ≤ n ∧ n ≤ 1048576 ∧ x.length ≤ 16 then one (.str (Txt.mul x n)) st else .stk
  | .RShift, .int i, .int j => if 0 ≤ j then one (.int (i / 2 ^ j.toNat)) st else .stk
  | .Mult, .ref p, .int k => match st[p]? with
    | some (.lst xs) => if -(2 ^ 63) ≤ k ∧ k < 2 ^ 63 ∧ xs.length * k.toNat ≤ sz then new (.lst (List.replicate k.toNat xs).flatten) st else .stk
    | _ => .stk
  | _, _, _ => .stk

def truth (v : V) (st : Store) : Option Bool := match v with
  | .non => some false
  | .bl b => some b
  | .int i => some (i != 0)
  | .str y => if y.length ≤ sz then some ((y.length : Int) != 0) else none
  | .ref p => match st[p]? with
    | some (.lst xs) => some (!xs.isEmpty)
    | some (.fro xs) => some (!xs.isEmpty)
    | some (.tup xs) => some (!xs.isEmpty)
    | some (.dK kvs) => some (!kvs.isEmpty)
    | _ => none
  | _ => none

/-- a value as data, lists and tuples to the depth n -/
def toD : Nat → Store → V → Option PyData
  | _, _, .non => some .none
  | _, _, .bl b => some (.bool b)
  | _, _, .int i => some (.int i)
  | _, _, .str s => some (.str s)
  | n + 1, st, .ref p => match st[p]? with
    | some (.lst xs) => (xs.mapM (toD n st)).map .list
    | some (.fro xs) => (xs.mapM (toD n st)).map .list
    | some (.tup xs) => (xs.mapM (toD n st)).map .tuple
    | _ => none
  | _, _, _ => none

def items (st : Store) (v : V) : Option (List V) := match v with
  | .ref p => match st[p]? with
    | some (.lst xs) => some xs
    | some (.fro xs) => some xs
    | some (.tup xs) => some xs
    | _ => none
  | _ => none

def eqD (x y : V) (st : Store) : Option Bool :=
  if scal x y then some (decide (x = y)) else match toD 60 st x, toD 60 st y with
    | some d, some e => if SeqAt.shaped d && SeqAt.shaped e then some (PyData.eqv d e) else none
    | _, _ => none

def inD (x y : V) (st : Store) : Option Bool := match y with
  | .str b => match x with
    | .str a => some (!(Builtin.Str.occurrences b a 0 b.length 1).isEmpty)
    | _ => none
  | _ => match items st y with
    | some xs => if flatV x && xs.all flatV then some (inV x xs) else none
    | none => match y with
      | .ref p => match st[p]? with
        | some (.dK kvs) => match x with
          | .str a => some (valV kvs (Sum.inr a : Key)).isSome
          | .int a => some (valV kvs (Sum.inl a : Key)).isSome
          | _ => none
        | _ => none
      | _ => none

def ofB (o : Option Bool) (st : Store) : R := match o with
  | some b => one (.bl b) st
  | none => .stk

def cmpD (op : CmpOp) (x y : V) (st : Store) : R := match op with
  | .Eq => ofB (eqD x y st) st
  | .NotEq => ofB ((eqD x y st).map (!·)) st
  | .In => ofB (inD x y st) st
  | .NotIn => ofB ((inD x y st).map (!·)) st
  | .Lt => match x, y with
    | .int i, .int j => one (.bl (decide (i < j))) st
    | _, _ => .stk
  | .LtE => match x, y with
    | .int i, .int j => one (.bl (decide (i ≤ j))) st
    | _, _ => .stk
  | .Gt => match x, y with
    | .int i, .int j => one (.bl (decide (j < i))) st
    | _, _ => .stk
  | .GtE => match x, y with
    | .int i, .int j => one (.bl (decide (j ≤ i))) st
    | _, _ => .stk
  | .Is => match y with
    | .non => one (.bl (decide (x = .non))) st
    | _ => .stk
  | .IsNot => match y with
    | .non => one (.bl (!decide (x = .non))) st
    | _ => .stk

def idxD (x y : V) (st : Store) : R := match y with
  | .int i => match x with
    | .str s => if s.length ≤ sz then match atI s.cps.toList i with
      | some c => one (.str ⟨#[c]⟩) st
      | none => .stk
      else .stk
    | _ => match items st x with
      | some xs => match atI xs i with
        | some v => one v st
        | none => .stk
      | none => .stk
  | .str a => match x with
    | .ref p => match st[p]? with
      | some (.dK kvs) => match valV kvs (Sum.inr a : Key) with
        | some v => one v st
        | none => .stk
      | _ => .stk
    | _ => .stk
  | _ => .stk

def part : List V → Option (Option Int)
  | [] => some none
  | [.int i] => some (some i)
  | _ => none

def slcD (x : V) (lo hi : Option Int) (st : Store) : R := match x with
  | .str s => if s.length ≤ sz then one (.str (cutS s lo hi)) st else .stk
  | .ref p => match st[p]? with
    | some (.lst xs) => new (.lst (cutV xs lo hi)) st
    | some (.fro xs) => new (.lst (cutV xs lo hi)) st
    | _ => .stk
  | _ => .stk

/-- isinstance of values that are no instances -/
def isTy (v : V) (st : Store) : Option Ty := match v with
  | .non => some .none
  | .bl _ => some .bool
  | .int _ => some .int
  | .str _ => some .str
  | .ref p => match st[p]? with
    | some (.lst _) => some .list
    | some (.tup _) => some .tuple
    | some (.dK _) => some .dict
    | _ => none
  | _ => none
def subTy : Ty → Ty → Bool
  | .bool, .int => true
  | t, c => decide (t = c)

def allB : List V → Option (List Bool)
  | [] => some []
  | .bl b :: r => (allB r).map (b :: ·)
  | _ => none
def allI : List V → Option (List Int)
  | [] => some []
  | .int b :: r => (allI r).map (b :: ·)
  | _ => none
def allS : List V → Option (List Str)
  | [] => some []
  | .str b :: r => (allS r).map (b :: ·)
  | _ => none

def bifD (mo : Mo) (f : Bi) (vs : List V) (st : Store) : R := match f, vs with
  | .len, [.str s] => if s.length ≤ sz then one (.int s.length) st else .stk
  | .len, [.ref p] => match st[p]? with
    | some (.lst xs) => one (.int xs.length) st
    | some (.fro xs) => one (.int xs.length) st
    | some (.tup xs) => one (.int xs.length) st
    | _ => .stk
  | .list, [.ref p] => match st[p]? with
    | some (.lst xs) => new (.lst xs) st
    | some (.fro xs) => new (.lst xs) st
    | some (.tup xs) => new (.lst xs) st
    | some (.dK kvs) => if mo = .on false then new (.lst (kvs.map fun kv => kV kv.1)) st else .stk
    | _ => .stk
  | .any, [.ref p] => if mo.q then (match st[p]? with
    | some (.lst xs) => match allB xs with
      | some bs => one (.bl (bs.any id)) st
      | none => .stk
    | _ => .stk) else .stk
  | .all, [.ref p] => if mo.q then (match st[p]? with
    | some (.lst xs) => match allB xs with
      | some bs => one (.bl (bs.all id)) st
      | none => .stk
    | _ => .stk) else .stk
  | .str, [.int i] => if i.natAbs.log2 < 1920 then one (.str (toString i)) st else .stk
  | .abs, [.int i] => one (.int (if i < 0 then -i else i)) st
  | _, _ => .stk

/-- the first place of a value -/
def idxOf (y : V) : List V → Nat → Option Nat
  | [], _ => none
  | z :: zs, j => if eqV z y then some j else idxOf y zs (j + 1)
def bmTy (m : Mt) (x : V) (st : Store) : Bool := match x with
  | .ref p => match m with
    | .lAppend | .lClear | .lPop | .lExtend => match st[p]? with
      | some (.lst _) => true
      | _ => false
    | .lIndex => match st[p]? with
      | some (.lst _) => true
      | some (.fro _) => true
      | _ => false
    | .dGet | .dPop => match st[p]? with
      | some (.dK _) => true
      | _ => false
    | _ => false
  | .str _ => match m with
    | .sJoin | .sLines | .sZfill => true
    | _ => false
  | _ => false
def keyOf? : V → Option Key
  | .str a => some (Sum.inr a)
  | .int a => some (Sum.inl a)
  | _ => none
def lstOf (st : Store) (v : V) : Option (List V) := match v with
  | .ref p => match st[p]? with
    | some (.lst xs) => some xs
    | _ => none
  | _ => none
def bmD (m : Mt) (x : V) (vs : List V) (st : Store) : R := match m, x, vs with
  | .lAppend, .ref p, [y] => match st[p]? with
    | some (.lst xs) => if xs.length < sz then one .non (st.set p (.lst (xs ++ [y]))) else .stk
    | _ => .stk
  | .lClear, .ref p, [] => match st[p]? with
    | some (.lst _) => one .non (st.set p (.lst []))
    | _ => .stk
  | .lPop, .ref p, [] => match st[p]? with
    | some (.lst xs) => match xs[xs.length - 1]? with
      | some y => one y (st.set p (.lst xs.dropLast))
      | none => .stk
    | _ => .stk
  | .lExtend, .ref p, [.ref q] => match st[p]?, st[q]? with
    | some (.lst xs), some (.lst ys) => if xs.length + ys.length ≤ sz then one .non (st.set p (.lst (xs ++ ys))) else .stk
    | _, _ => .stk
  | .lIndex, v, [y] => match lstOf st v with
    | some xs => if flatV y && xs.all flatV then (match idxOf y xs 0 with
      | some j => one (.int (j : Nat)) st
      | none => .stk) else .stk
    | none => .stk
  | .dGet, .ref p, [k] => match st[p]?, keyOf? k with
    | some (.dK kvs), some k => one ((valV kvs k).getD .non) st
    | _, _ => .stk
  | .dPop, .ref p, [k] => match st[p]?, keyOf? k with
    | some (.dK kvs), some k => match valV kvs k with
      | some v => one v (st.set p (.dK (dropK kvs k)))
      | none => .stk
    | _, _ => .stk
  | .sJoin, .str a, [v] => match lstOf st v with
    | some xs => match allS xs with
      | some ys => if (ys.map (·.length)).sum + ys.length * a.length ≤ sz then one (.str (Txt.join a ys)) st else .stk
      | none => .stk
    | none => .stk
  | .sLines, .str a, [] => if a.length + 2 ≤ sz ∧ (lineCuts a).length ≤ sz then new (.lst ((Txt.lines a).map V.str)) st else .stk
  | .sZfill, .str a, [.int i] => if PadOk i then one (.str (Txt.zfill a i)) st else .stk
  | _, _, _ => .stk

def setI (o i v : V) (st : Store) : Option Store := match o with
  | .ref p => match st[p]?, i with
    | some (.lst xs), .int k => match ixN xs.length k with
      | some j => some (st.set p (.lst (xs.set j v)))
      | none => none
    | some (.dK kvs), .str a => if kvs.length < sz then some (st.set p (.dK (putK kvs (Sum.inr a : Key) v))) else none
    | _, _ => none
  | _ => none

def setMany : List Nat → List V → Ev → Option Ev
  | [], [], env => some env
  | i :: is, v :: vs, env => if i < env.length then setMany is vs (env.set i (some v)) else none
  | _, _, _ => none
def setTg (tg : Tg) (v : V) (env : Ev) (st : Store) : Option Ev := match tg with
  | .n i => if i < env.length then some (env.set i (some v)) else none
  | .t is => match v with
    | .ref p => match st[p]? with
      | some (.tup xs) => setMany is xs env
      | _ => none
    | _ => none

/-! ### walks -/
/-- what is walked, by what it is when the walk begins -/
def rk (k : Ik) (vs : List V) (st : Store) : Ik := match k, vs with
  | .seq, [.ref p] => match st[p]? with
    | some (.lst _) => .lstk
    | some (.fro _) => .lstk
    | some (.tup _) => .tupk
    | _ => .nok
  | .seq, [.str _] => .strk
  | .seq, _ => .nok
  | .lstk, _ => .nok
  | .tupk, _ => .nok
  | .strk, _ => .nok
  | .nok, _ => .nok
  | .rng1, _ => .rng1
  | .rng2, _ => .rng2
  | .rngd, _ => .rngd
  | .enum1, _ => .enum1
def nth {α : Type} (xs : List α) (i : Nat) (f : α → V × Store) : Option (Option (V × Store)) := match xs[i]? with
  | some x => some (some (f x))
  | none => some none
def cur (k : Ik) (vs : List V) (i : Nat) (st : Store) : Option (Option (V × Store)) := match k, vs with
  | .lstk, [.ref p] => match st[p]? with
    | some (.lst xs) => nth xs i fun x => (x, st)
    | some (.fro xs) => nth xs i fun x => (x, st)
    | _ => none
  | .tupk, [.ref p] => match st[p]? with
    | some (.tup xs) => nth xs i fun x => (x, st)
    | _ => none
  | .strk, [.str s] => nth s.cps.toList i fun c => (.str ⟨#[c]⟩, st)
  | .rng1, [.int n] => if -(2 ^ 62) ≤ n ∧ n < 2 ^ 62 then (if i < n.toNat then some (some (.int i, st)) else some none) else none
  | .rng2, [.int a, .int b] => if -(2 ^ 62) ≤ a ∧ a < 2 ^ 62 ∧ -(2 ^ 62) ≤ b ∧ b < 2 ^ 62 then (if i < (b - a).toNat then some (some (.int (a + i), st)) else some none) else none
  | .rngd, [.int a, .int b, .int c] => if c = -1 ∧ -(2 ^ 62) ≤ a ∧ a < 2 ^ 62 ∧ -(2 ^ 62) ≤ b ∧ b < 2 ^ 62 then (if i < (a - b).toNat then some (some (.int (a + (i : Nat) * (-1)), st)) else some none) else none
  | .enum1, [.ref p] => match st[p]? with
    | some (.lst xs) => nth xs i fun x => (.ref st.length, st ++ [.tup [.int (1 + (i : Int)), x]])
    | _ => none
  | _, _ => none
def turns (k : Ik) (vs : List V) (st : Store) : Nat := match k, vs with
  | .rng1, [.int n] => n.toNat
  | .rng2, [.int a, .int b] => (b - a).toNat
  | .rngd, [.int a, .int b, _] => (a - b).toNat
  | _, [.str s] => s.length
  | _, [v] => match items st v with
    | some xs => xs.length
    | none => 0
  | _, _ => 0

def loopN (cu : Nat → Store → Option (Option (V × Store))) (bd : V → Ev → Store → R) : Nat → Nat → Ev → Store → R
  | 0, _, _, _ => .stk
  | m + 1, i, env, st => match cu i st with
    | none => .stk
    | some none => .nxt env st
    | some (some (x, st1)) => (bd x env st1).bn fun env2 st2 => loopN cu bd m (i + 1) env2 st2
def lcN (cu : Nat → Store → Option (Option (V × Store))) (bd : V → Store → R) (D : Nat) : Nat → Nat → Store → R
  | 0, _, _ => .stk
  | m + 1, i, st => match cu i st with
    | none => .stk
    | some none => one (.ref D) st
    | some (some (x, st1)) => match bd x st1 with
      | .val [] st2 => lcN cu bd D m (i + 1) st2
      | .val [y] st2 => match st2[D]? with
        | some (.lst acc) => if acc.length < sz then lcN cu bd D m (i + 1) (st2.set D (.lst (acc ++ [y]))) else .stk
        | _ => .stk
      | .exc c fs env st2 => .exc c fs env st2
      | _ => .stk
def whlN (c : Ev → Store → R) (b : Ev → Store → R) : Nat → Ev → Store → R
  | 0, _, _ => .stk
  | m + 1, env, st => (c env st).b1 fun v st1 => match truth v st1 with
    | none => .stk
    | some false => .nxt env st1
    | some true => (b env st1).bn fun env2 st2 => whlN c b m env2 st2
def wBound : Nat := 1000000

/-! ### the program's table -/
structure Fn where
  ps : List Str
  N : List Str
  dfl : List V
  body : T
  top : Bool
structure Prog where
  fn : Str → Option Fn
  /-- a class's function, read off the class -/
  cm : Str → Str → Option Str
  /-- a class's method: the name of its def -/
  meth : Str → Str → Option Str
  glo : Str → Option V
  /-- classes that are called; their attributes that are read and stored -/
  made : Str → Bool
  fld : Str → Str → Bool
  /-- built-in classes that isinstance asks for -/
  ty : Str → Bool
  /-- exception classes that are raised; the field that the own __init__ stores -/
  exk : Str → Option (Option Str)
  /-- classes that an except, an isinstance names -/
  kls : Str → Bool
  /-- a class under a class -/
  sub : Str → Str → Option Bool
  /-- an exception's fields that are read -/
  xfld : Str → Str → Bool
  /-- raised while another is handled -/
  bad : Str → Bool

def exE (r : R) (env : Ev) : R := match r with
  | .exc c fs _ st => .exc c fs env st
  | r => r

def cfm (cf : Bool → Str → List V → Store → R) : Mo → Str → List V → Store → R
  | .on h, f, xs, st => cf h f xs st
  | .ine, _, _, _ => .stk
def subAny (Pg : Prog) (c : Str) : List Str → Option Bool
  | [] => none
  | [k] => Pg.sub c k
  | k :: k2 :: ks => match Pg.sub c k with
    | some true => some true
    | some false => subAny Pg c (k2 :: ks)
    | none => none
def setO (env : Ev) (n : Option Nat) (v : V) : Ev := match n with
  | some i => env.set i (some v)
  | none => env
def wipeO (env : Ev) (n : Option Nat) : Ev := match n with
  | some i => env.set i none
  | none => env
/-- an except suite; c is handled in it -/
def suiR (Pg : Prog) (f : Mo → Ev → Store → R) (n : Option Nat) (c : Str) (fs : List (Str × V)) (env : Ev) (st : Store) : R :=
  match f (if Pg.bad c then .ine else .on true) (setO env n (.ref st.length)) (st ++ [.exc c fs]) with
  | .nxt env2 st2 => .nxt (wipeO env2 n) (st2.set st.length .dead)
  | .ret v st2 => .ret v (st2.set st.length .dead)
  | .exc c2 fs2 env2 st2 => .exc c2 fs2 (wipeO env2 n) (st2.set st.length .dead)
  | _ => .stk
def triR (Pg : Prog) (c1 : Str) (n1 : Option Nat) (o2 : Option (Str × Option Nat)) (f1 f2 : Mo → Ev → Store → R) (oe : Ev → Store → R) (r : R) : R := match r with
  | .nxt env st => oe env st
  | .exc c fs env st => match Pg.sub c c1 with
    | some true => suiR Pg f1 n1 c fs env st
    | some false => match o2 with
      | none => .exc c fs env st
      | some (c2, n2) => match Pg.sub c c2 with
        | some true => suiR Pg f2 n2 c fs env st
        | some false => .exc c fs env st
        | none => .stk
    | none => .stk
  | r => r
section
variable (Pg : Prog) (cf : Bool → Str → List V → Store → R)
def run : T → Mo → Ev → Store → R
  | .nev, mo, _, _ => .stk
  | .var i, mo, env, st => match env[i]? with
    | some (some v) => one v st
    | _ => .stk
  | .cst v, mo, _, st => one v st
  | .glo x, mo, _, st => match Pg.glo x with
    | some v => one v st
    | none => .stk
  | .bin op a b, mo, env, st => (run a mo env st).b1 fun x st1 => (run b mo env st1).b1 fun y st2 => binD op x y st2
  | .neg a, mo, env, st => (run a mo env st).b1 fun x st1 => match x with
    | .int i => one (.int (-i)) st1
    | _ => .stk
  | .not a, mo, env, st => (run a mo env st).b1 fun x st1 => ofB ((truth x st1).map (!·)) st1
  | .and a b, mo, env, st => (run a mo env st).b1 fun x st1 => match truth x st1 with
    | none => .stk
    | some true => run b mo env st1
    | some false => one x st1
  | .or a b, mo, env, st => (run a mo env st).b1 fun x st1 => match truth x st1 with
    | none => .stk
    | some true => one x st1
    | some false => run b mo env st1
  | .cmp op a b, mo, env, st => (run a mo env st).b1 fun x st1 => (run b mo env st1).b1 fun y st2 => cmpD op x y st2
  | .cmp2 op op' a b c, mo, env, st => (run a mo env st).b1 fun x st1 => (run b mo env st1).b1 fun y st2 => (cmpD op x y st2).b1 fun z st3 => match z with
    | .bl true => (run c mo env st3).b1 fun w st4 => cmpD op' y w st4
    | .bl false => one (.bl false) st3
    | _ => .stk
  | .ife c a b, mo, env, st => (run c mo env st).b1 fun x st1 => match truth x st1 with
    | none => .stk
    | some true => run a mo env st1
    | some false => run b mo env st1
  | .nil, mo, _, st => .val [] st
  | .cons a as, mo, env, st => (run a mo env st).b1 fun x st1 => (run as mo env st1).bs fun xs st2 => .val (x :: xs) st2
  | .som a, mo, env, st => (run a mo env st).b1 fun x st1 => .val [x] st1
  | .tup as, mo, env, st => (run as mo env st).bs fun xs st1 => if xs.length ≤ sz then new (.tup xs) st1 else .stk
  | .lst as, mo, env, st => (run as mo env st).bs fun xs st1 => if xs.length ≤ sz then new (.lst xs) st1 else .stk
  | .dic0, mo, _, st => new (.dK []) st
  | .call f as, mo, env, st => (run as mo env st).bs fun xs st1 => exE (cfm cf mo f xs st1) env
  | .bif f as, mo, env, st => (run as mo env st).bs fun xs st1 => bifD mo f xs st1
  | .isi a t, mo, env, st => (run a mo env st).b1 fun x st1 => match isTy x st1 with
    | some t' => one (.bl (subTy t' t)) st1
    | none => .stk
  | .meth m o as, mo, env, st => (run o mo env st).b1 fun x st1 => match x with
    | .ref p => match st1[p]? with
      | some (.ins c fs) => if (fs.lookup m).isNone then (match Pg.meth c m with
          | some f => (run as mo env st1).bs fun xs st2 => exE (cfm cf mo f (.ref p :: xs) st2) env
          | none => .stk) else .stk
      | _ => .stk
    | _ => .stk
  | .bm m o as, mo, env, st => (run o mo env st).b1 fun x st1 => if bmTy m x st1 then (run as mo env st1).bs fun xs st2 => bmD m x xs st2 else .stk
  | .mk c as, mo, env, st => match (if Pg.made c then Pg.meth c "__init__" else none) with
    | some f => (run as mo env st).bs fun xs st1 => (exE (cfm cf mo f (.ref st1.length :: xs) (st1 ++ [.ins c []])) env).b1 fun v st2 => match v with
      | .non => one (.ref st1.length) st2
      | _ => .stk
    | none => .stk
  | .cm c m as, mo, env, st => match Pg.cm c m with
    | some f => (run as mo env st).bs fun xs st1 => exE (cfm cf mo f xs st1) env
    | none => .stk
  | .lset a, mo, env, st => if mo = .on false then (run a mo env st).b1 fun x st1 => match lstOf st1 x with
    | some xs => match allS xs with
      | some ys => if ys.length ≤ 4000 ∧ ys.Nodup then one (.int (ys.length : Nat)) st1 else .stk
      | none => .stk
    | none => .stk
    else .stk
  | .rsl a, mo, env, st => (run a mo env st).b1 fun x st1 => match lstOf st1 x with
    | some xs => new (.lst xs.reverse) st1
    | none => .stk
  | .lrev a, mo, env, st => if mo = .on false then (run a mo env st).b1 fun x st1 => match lstOf st1 x with
    | some xs => new (.lst xs.reverse) st1
    | none => .stk
    else .stk
  | .fld o f, mo, env, st => (run o mo env st).b1 fun x st1 => match x with
    | .ref p => match st1[p]? with
      | some (.ins c fs) => if Pg.fld c f then (match fs.lookup f with
        | some v => one v st1
        | none => .stk) else .stk
      | _ => .stk
    | _ => .stk
  | .fldX o f, mo, env, st => (run o mo env st).b1 fun x st1 => match x with
    | .ref p => match st1[p]? with
      | some (.exc c fs) => if Pg.xfld c f then (match fs.lookup f with
        | some v => one v st1
        | none => .stk) else .stk
      | _ => .stk
    | _ => .stk
  | .isc a k, mo, env, st => (run a mo env st).b1 fun x st1 => match x with
    | .ref p => match st1[p]? with
      | some (.exc c _) => ofB (Pg.sub c k) st1
      | _ => .stk
    | _ => .stk
  | .iscs a ks, mo, env, st => (run a mo env st).b1 fun x st1 => match x with
    | .ref p => match st1[p]? with
      | some (.exc c _) => ofB (subAny Pg c ks) st1
      | _ => .stk
    | _ => .stk
  | .idx a i, mo, env, st => (run a mo env st).b1 fun x st1 => (run i mo env st1).b1 fun y st2 => idxD x y st2
  | .slc a lo hi, mo, env, st => (run a mo env st).b1 fun x st1 => (run lo mo env st1).bs fun l st2 => match part l with
    | none => .stk
    | some l => (run hi mo env st2).bs fun h st3 => match part h with
      | none => .stk
      | some h => slcD x l h st3
  | .lc own tg k a ifs e, mo, env, st => if mo.q then (run a mo env st).bs fun vs st1 => match cur (rk k vs st1) vs 0 st1 with
    | none => .stk
    | some _ => lcN (cur (rk k vs st1) vs) (fun x st2 => match setTg tg x (wipe env own) st2 with
        | none => .stk
        | some env2 => (run ifs mo env2 st2).bs fun bs st3 => match bs with
          | [] => (run e mo env2 st3).b1 fun v st4 => .val [v] st4
          | [b] => match truth b st3 with
            | some true => (run e mo env2 st3).b1 fun v st4 => .val [v] st4
            | some false => .val [] st3
            | none => .stk
          | _ => .stk) st1.length (turns k vs st1 + 1) 0 (st1 ++ [.lst []])
    else .stk
  | .don, mo, env, st => .nxt env st
  | .seq a b, mo, env, st => (run a mo env st).bn fun env1 st1 => run b mo env1 st1
  | .asgN i e, mo, env, st => (exE (run e mo env st) env).b1 fun v st1 => if i < env.length then .nxt (env.set i (some v)) st1 else .stk
  | .asgT is e, mo, env, st => if mo.q then (exE (run e mo env st) env).b1 fun v st1 => match setTg (.t is) v env st1 with
    | some env1 => .nxt env1 st1
    | none => .stk
    else .stk
  | .asgF o f e, mo, env, st => (exE (run e mo env st) env).b1 fun v st1 => (exE (run o mo env st1) env).b1 fun x st2 => match x with
    | .ref p => match st2[p]? with
      | some (.ins c fs) => if fs.length < 1000 ∧ Pg.fld c f = true then .nxt env (st2.set p (.ins c (putF f v fs))) else .stk
      | _ => .stk
    | _ => .stk
  | .asgI o i e, mo, env, st => (exE (run e mo env st) env).b1 fun v st1 => (exE (run o mo env st1) env).b1 fun x st2 => (exE (run i mo env st2) env).b1 fun y st3 => match setI x y v st3 with
    | some st4 => .nxt env st4
    | none => .stk
  | .aug i op e, mo, env, st => match env[i]? with
    | some (some x) => (exE (run e mo env st) env).b1 fun y st1 => match op, x, y with
      | .Add, .int a, .int b => .nxt (env.set i (some (.int (a + b)))) st1
      | .Sub, .int a, .int b => .nxt (env.set i (some (.int (a - b)))) st1
      | _, _, _ => .stk
    | _ => .stk
  | .augF o f e, mo, env, st => (exE (run o mo env st) env).b1 fun x st1 => match x with
    | .ref p => match st1[p]? with
      | some (.ins c fs) => if Pg.fld c f then (match fs.lookup f with
        | some v => (exE (run e mo env st1) env).b1 fun y st2 => match v, y with
          | .int i, .int j => match st2[p]? with
            | some (.ins c2 fs2) => if c2 = c ∧ fs2.length < 1000 then .nxt env (st2.set p (.ins c2 (putF f (.int (i - j)) fs2))) else .stk
            | _ => .stk
          | _, _ => .stk
        | none => .stk) else .stk
      | _ => .stk
    | _ => .stk
  | .drop e, mo, env, st => (exE (run e mo env st) env).b1 fun _ st1 => .nxt env st1
  | .ret e, mo, env, st => (exE (run e mo env st) env).b1 fun v st1 => .ret v st1
  | .retN, mo, _, st => .ret .non st
  | .ifs c a b, mo, env, st => (exE (run c mo env st) env).b1 fun v st1 => match truth v st1 with
    | none => .stk
    | some true => run a mo env st1
    | some false => run b mo env st1
  | .for tg k a b, mo, env, st => if mo.q then (exE (run a mo env st) env).bs fun vs st1 => loopN (cur (rk k vs st1) vs) (fun x env2 st2 => match setTg tg x env2 st2 with
      | none => .stk
      | some env3 => run b mo env3 st2) (turns k vs st1 + 1) 0 env st1
    else .stk
  | .whl c b, mo, env, st => whlN (fun env st => exE (run c mo env st) env) (run b mo) wBound env st
  | .raiM c, mo, env, st => if mo = .on false then .exc c [] env st else .stk
  | .rai c a, mo, env, st => if mo = .on false then (exE (run a mo env st) env).b1 fun v st1 => match Pg.exk c with
    | some (some f) => .exc c [(f, v)] env st1
    | _ => .stk else .stk
  | .raiF c a i, mo, env, st => if mo = .on true then (exE (run a mo env st) env).b1 fun v st1 => match env[i]? with
    | some (some (.ref p)) => match st1[p]? with
      | some (.exc _ _) => match Pg.exk c with
        | some (some f) => if Pg.bad c then .exc c [(f, v)] env st1 else .stk
        | _ => .stk
      | _ => .stk
    | _ => .stk else .stk
  | .tri b c1 n1 s1 o2 s2 oe, mo, env, st => if mo = .on false then triR Pg c1 n1 o2 (fun m => run s1 m) (fun m => run s2 m) (run oe mo) (run b mo env st) else .stk
end

def callN (Pg : Prog) : Nat → Bool → Str → List V → Store → R
  | 0, _, _, _, _ => .stk
  | d + 1, h, f, vs, st => match Pg.fn f with
    | none => .stk
    | some F => if vs.length ≤ F.ps.length ∧ F.ps.length ≤ vs.length + F.dfl.length then
        (match run Pg (callN Pg d) F.body (.on h) (start F.N (vs ++ F.dfl.drop (vs.length + F.dfl.length - F.ps.length))) st with
        | .ret v st' => .val [v] st'
        | .nxt _ st' => .val [.non] st'
        | .exc c fs _ st' => .exc c fs [] st'
        | _ => .stk)
      else .stk
end Mi
set_option maxHeartbeats 1000000
/-! Mi over the layer: how a store stands in a heap; what a reading must give. -/
namespace Mi
open PySem PySem.Spec PyProof.Rows L2 L2H

theorem sz_eq : sz = sizeLine := by rw [sizeLine_eq]; rfl

/-! ### values, objects, stores -/
def VR (as : List Addr) : V → V → Prop
  | .ref i, w => ∃ a, as[i]? = some a ∧ w = .ref a
  | v, w => w = v
def isRef : V → Bool
  | .ref _ => true
  | _ => false
theorem VR.scalar {as : List Addr} {v w : V} (h : VR as v w) (s : isRef v = false) : w = v := by
  cases v <;> first | exact h | cases s
theorem VR.of {as : List Addr} {v : V} (s : isRef v = false) : VR as v v := by
  cases v <;> first | rfl | cases s
theorem pre_get {as as' : List Addr} (h : as <+: as') {i : Nat} {a : Addr} (e : as[i]? = some a) : as'[i]? = some a := by
  obtain ⟨l, rfl⟩ := h
  have hi : i < as.length := (List.getElem?_eq_some_iff.mp e).1
  rw [List.getElem?_append_left hi]
  exact e
theorem VR.mono {as as' : List Addr} (h : as <+: as') : ∀ {v w : V}, VR as v w → VR as' v w
  | .ref i, w, ⟨a, e, q⟩ => ⟨a, pre_get h e, q⟩
  | .non, _, e => e
  | .bl _, _, e => e
  | .int _, _, e => e
  | .str _, _, e => e
  | .byt _, _, e => e
  | .flt _, _, e => e
  | .ty _, _, e => e
abbrev VRs (as : List Addr) : List V → List V → Prop := Paired (VR as)
theorem VRs.mono {as as' : List Addr} (h : as <+: as') {vs ws : List V} (r : VRs as vs ws) : VRs as' vs ws := Paired.mono (fun _ _ => VR.mono h) r
/-- pairs with equal keys -/
abbrev KRs {κ : Type} (as : List Addr) : List (κ × V) → List (κ × V) → Prop := Paired fun p q => p.1 = q.1 ∧ VR as p.2 q.2
theorem KRs.mono {κ : Type} {as as' : List Addr} (h : as <+: as') {vs ws : List (κ × V)} (r : KRs as vs ws) : KRs as' vs ws := Paired.mono (fun _ _ q => ⟨q.1, VR.mono h q.2⟩) r
theorem P.length {α β : Type} {F : α → β → Prop} : ∀ {l₁ : List α} {l₂ : List β}, Paired F l₁ l₂ → l₁.length = l₂.length
  | _, _, .nil => rfl
  | _, _, .cons _ r => by rw [List.length_cons, List.length_cons, P.length r]
theorem P.get {α β : Type} {F : α → β → Prop} : ∀ {l₁ : List α} {l₂ : List β}, Paired F l₁ l₂ → ∀ {i : Nat} {x : α}, l₁[i]? = some x → ∃ y, l₂[i]? = some y ∧ F x y
  | _, _, .nil, i, x, h => by simp at h
  | _, _, .cons (a := a) (b := b) f r, 0, x, h => by
    have e : a = x := Option.some.inj h
    subst e
    exact ⟨b, rfl, f⟩
  | _, _, .cons f r, i + 1, x, h => P.get r h
theorem P.getNone {α β : Type} {F : α → β → Prop} {l₁ : List α} {l₂ : List β} (h : Paired F l₁ l₂) {i : Nat} (e : l₁[i]? = none) : l₂[i]? = none := by
  rw [List.getElem?_eq_none_iff] at e ⊢
  rw [← P.length h]
  exact e
theorem P.append {α β : Type} {F : α → β → Prop} : ∀ {l₁ k₁ : List α} {l₂ k₂ : List β}, Paired F l₁ l₂ → Paired F k₁ k₂ → Paired F (l₁ ++ k₁) (l₂ ++ k₂)
  | _, _, _, _, .nil, q => q
  | _, _, _, _, .cons f r, q => .cons f (P.append r q)
theorem P.take {α β : Type} {F : α → β → Prop} : ∀ {l₁ : List α} {l₂ : List β} (n : Nat), Paired F l₁ l₂ → Paired F (l₁.take n) (l₂.take n)
  | _, _, 0, _ => by rw [List.take_zero, List.take_zero]; exact .nil
  | _, _, n + 1, .nil => .nil
  | _, _, n + 1, .cons f r => .cons f (P.take n r)
theorem P.drop {α β : Type} {F : α → β → Prop} : ∀ {l₁ : List α} {l₂ : List β} (n : Nat), Paired F l₁ l₂ → Paired F (l₁.drop n) (l₂.drop n)
  | _, _, 0, r => r
  | _, _, n + 1, .nil => .nil
  | _, _, n + 1, .cons f r => P.drop n r
theorem P.set {α β : Type} {F : α → β → Prop} {x : α} {y : β} (f : F x y) : ∀ {l₁ : List α} {l₂ : List β} (i : Nat), Paired F l₁ l₂ → Paired F (l₁.set i x) (l₂.set i y)
  | _, _, _, .nil => .nil
  | _, _, 0, .cons _ r => .cons f r
  | _, _, i + 1, .cons g r => .cons g (P.set f i r)
theorem P.flatten {α β : Type} {F : α → β → Prop} {l₁ : List α} {l₂ : List β} (h : Paired F l₁ l₂) : ∀ k : Nat, Paired F (List.replicate k l₁).flatten (List.replicate k l₂).flatten
  | 0 => .nil
  | k + 1 => by
    rw [List.replicate_succ, List.replicate_succ, List.flatten_cons, List.flatten_cons]
    exact P.append h (P.flatten h k)
theorem P.dropLast {α β : Type} {F : α → β → Prop} {l₁ : List α} {l₂ : List β} (h : Paired F l₁ l₂) : Paired F l₁.dropLast l₂.dropLast := by
  rw [List.dropLast_eq_take, List.dropLast_eq_take, ← P.length h]
  exact P.take _ h
theorem P.reverse {α β : Type} {F : α → β → Prop} {l₁ : List α} {l₂ : List β} (h : Paired F l₁ l₂) : Paired F l₁.reverse l₂.reverse := by
  induction h with
  | nil => exact .nil
  | cons f _ ih =>
    rw [List.reverse_cons, List.reverse_cons]
    exact P.append ih (.cons f .nil)
theorem P.isEmpty {α β : Type} {F : α → β → Prop} : ∀ {l₁ : List α} {l₂ : List β}, Paired F l₁ l₂ → l₂.isEmpty = l₁.isEmpty
  | _, _, .nil => rfl
  | _, _, .cons _ _ => rfl
theorem VRs.same {as : List Addr} : ∀ {vs ws : List V}, VRs as vs ws → vs.all (fun v => !isRef v) = true → ws = vs
  | _, _, .nil, _ => rfl
  | _, _, .cons (a := a) f r, h => by
    have h2 := Bool.and_eq_true_iff.mp (show (!isRef a && _) = true from h)
    rw [VR.scalar f (by simpa using h2.1), VRs.same r h2.2]

/-- the classes', the defs' addresses; which classes are raised while another is handled; what is known of the exceptions that are handled, by their places in the store -/
structure Cz where
  c : Str → Addr
  ad : Str → Addr
  bad : Value → Bool
  xi : Nat → Addr → Value → Option Addr → Prop
instance : CoeFun Cz (fun _ => Str → Addr) := ⟨Cz.c⟩
abbrev Cz.x (cls : Cz) (xi : Nat → Addr → Value → Option Addr → Prop) : Cz := { cls with xi := xi }
def live : IO → Bool
  | .exc _ _ => false
  | .dfn _ => false
  | .dead => false
  | _ => true
/-- an exception's dict -/
def XF (as : List Addr) (st : Store) (fs : List (Str × V)) (d : Option Addr) (H : Hp) : Prop :=
  (fs = [] ∧ d = none) ∨ (fs ≠ [] ∧ ∃ dd gs, d = some dd ∧ H dd = some (.xd gs) ∧ (∀ (i : Nat) (o : IO) (b : Addr), st[i]? = some o → live o = true → as[i]? = some b → b ≠ dd) ∧ KRs as fs gs)
section
variable (cls : Cz)
/-- an object of the store as it stands in the heap -/
def OR (as : List Addr) (H : Hp) (a : Addr) : IO → Prop
  | .lst xs => ∃ ys, VRs as xs ys ∧ H a = some (.lst ys)
  | .tup xs => ∃ ys, VRs as xs ys ∧ H a = some (.tup ys)
  | .fro xs => ∃ ys, VRs as xs ys ∧ Rd H a (.lst ys)
  | .dK kvs => ∃ kws, KRs as kvs kws ∧ H a = some (.dK kws)
  | .dT kvs => ∃ kws, KRs as kvs kws ∧ H a = some (.dT kws)
  | .ins c fs => ∃ dx gs, KRs as fs gs ∧ H a = some (.ins (cls c) dx gs)
  | .exc _ _ => True
  | .dfn f => a = cls.ad f
  | .dead => True
structure Rel (as : List Addr) (st : Store) (H : Hp) : Prop where
  len : as.length = st.length
  nd : ∀ (i j : Nat) (o u : IO) (a : Addr), st[i]? = some o → st[j]? = some u → live o = true → live u = true → as[i]? = some a → as[j]? = some a → i = j
  at_ : ∀ (i : Nat) (o : IO) (a : Addr), st[i]? = some o → as[i]? = some a → OR cls as H a o
  ex : ∀ (i : Nat) (c : Str) (fs : List (Str × V)) (a : Addr), st[i]? = some (.exc c fs) → as[i]? = some a → ∃ d, cls.xi i a (.ref (cls c)) d ∧ XF as st fs d H
end
section
variable {cls : Cz} {as as' : List Addr} {st : Store} {H H' : Hp} {a p : Addr} {o : IO} {ho : HO} {i : Nat} {v w : V}
theorem OR.live (h : OR cls as H a o) (l : Mi.live o = true) : ∃ u, H a = some u := by
  cases o with
  | fro xs =>
    obtain ⟨ys, _, r⟩ := h
    rcases r with r | ⟨o, r⟩
    · exact ⟨_, r⟩
    · exact ⟨_, r⟩
  | ins c fs =>
    obtain ⟨dx, gs, _, r⟩ := h
    exact ⟨_, r⟩
  | exc c fs => cases l
  | dfn f => cases l
  | dead => cases l
  | _ =>
    obtain ⟨ys, _, r⟩ := h
    exact ⟨_, r⟩
theorem OR.keep (hp : as <+: as') (e : Mi.live o = true → H' a = H a) (h : OR cls as H a o) : OR cls as' H' a o := by
  cases o with
  | lst xs =>
    obtain ⟨ys, q, r⟩ := h
    exact ⟨ys, q.mono hp, (e rfl).trans r⟩
  | tup xs =>
    obtain ⟨ys, q, r⟩ := h
    exact ⟨ys, q.mono hp, (e rfl).trans r⟩
  | fro xs =>
    obtain ⟨ys, q, r⟩ := h
    refine ⟨ys, q.mono hp, ?_⟩
    rcases r with r | ⟨o, r⟩
    · exact .inl ((e rfl).trans r)
    · exact .inr ⟨o, (e rfl).trans r⟩
  | dK kvs =>
    obtain ⟨ys, q, r⟩ := h
    exact ⟨ys, q.mono hp, (e rfl).trans r⟩
  | dT kvs =>
    obtain ⟨ys, q, r⟩ := h
    exact ⟨ys, q.mono hp, (e rfl).trans r⟩
  | ins c fs =>
    obtain ⟨dx, gs, q, r⟩ := h
    exact ⟨dx, gs, q.mono hp, (e rfl).trans r⟩
  | exc c fs => trivial
  | dfn f => exact h
  | dead => trivial
theorem pre_snoc : as <+: as ++ [p] := ⟨[p], rfl⟩
theorem Rel.addr (R : Rel cls as st H) (h : st[i]? = some o) : ∃ a, as[i]? = some a := by
  have hi : i < st.length := (List.getElem?_eq_some_iff.mp h).1
  rw [← R.len] at hi
  exact ⟨as[i], List.getElem?_eq_getElem hi⟩
theorem Rel.live (R : Rel cls as st H) (h : as[i]? = some a) (e : st[i]? = some o) (l : Mi.live o = true) : ∃ u, H a = some u := (R.at_ i _ a e h).live l
/-- what a reference stands for -/
theorem Rel.ref (R : Rel cls as st H) (h : VR as (.ref i) w) (e : st[i]? = some o) : ∃ a, w = .ref a ∧ as[i]? = some a ∧ OR cls as H a o := by
  obtain ⟨a, q, rfl⟩ := h
  exact ⟨a, rfl, q, R.at_ i o a e q⟩
theorem snoc_get {st : Store} {j : Nat} {o o' : IO} (h : (st ++ [o])[j]? = some o') : (j < st.length ∧ st[j]? = some o') ∨ (j = st.length ∧ o' = o) := by
  by_cases hj : j < st.length
  · rw [List.getElem?_append_left hj] at h
    exact .inl ⟨hj, h⟩
  · have hj2 : j = st.length := by
      have := (List.getElem?_eq_some_iff.mp h).1
      rw [List.length_append] at this
      simp at this
      omega
    subst hj2
    rw [List.getElem?_append_right (Nat.le_refl _), Nat.sub_self] at h
    exact .inr ⟨rfl, (Option.some.inj h).symm⟩
theorem snoc_ad (R : Rel cls as st H) {j : Nat} {b : Addr} (h : (as ++ [p])[j]? = some b) : (j < st.length ∧ as[j]? = some b) ∨ (j = st.length ∧ b = p) := by
  by_cases hj : j < as.length
  · rw [List.getElem?_append_left hj] at h
    exact .inl ⟨by rw [← R.len]; exact hj, h⟩
  · have hj2 : j = as.length := by
      have := (List.getElem?_eq_some_iff.mp h).1
      rw [List.length_append] at this
      simp at this
      omega
    subst hj2
    rw [List.getElem?_append_right (Nat.le_refl _), Nat.sub_self] at h
    exact .inr ⟨R.len, (Option.some.inj h).symm⟩
/-- an exception's dict stays -/
theorem XF.keep {fs : List (Str × V)} {d : Option Addr} {st' : Store} (h : XF as st fs d H) (hp : as <+: as') (k : ∀ (dd : Addr) (gs : List (Str × V)), H dd = some (.xd gs) → (∀ (i : Nat) (o : IO) (b : Addr), st[i]? = some o → Mi.live o = true → as[i]? = some b → b ≠ dd) → H' dd = some (.xd gs) ∧ ∀ (i : Nat) (o : IO) (b : Addr), st'[i]? = some o → Mi.live o = true → as'[i]? = some b → b ≠ dd) : XF as' st' fs d H' := by
  rcases h with h | ⟨h1, dd, gs, e1, e2, e3, e4⟩
  · exact .inl h
  · obtain ⟨k1, k2⟩ := k dd gs e2 e3
    exact .inr ⟨h1, dd, gs, e1, k1, k2, e4.mono hp⟩
/-- a new entry -/
theorem Rel.pushO (R : Rel cls as st H) (k : ∀ a u, H a = some u → H' a = some u) (hp : Mi.live o = true → H p = none) (hn : OR cls (as ++ [p]) H' p o) (hx : ∀ c fs, o = .exc c fs → ∃ d, cls.xi st.length p (.ref (cls c)) d ∧ XF (as ++ [p]) (st ++ [o]) fs d H') : Rel cls (as ++ [p]) (st ++ [o]) H' where
  len := by rw [List.length_append, List.length_append, R.len]; rfl
  nd := fun i j x y b hi hj lx ly ai aj => by
    rcases snoc_get hi with ⟨i1, i2⟩ | ⟨i1, i2⟩
    · rcases snoc_get hj with ⟨j1, j2⟩ | ⟨j1, j2⟩
      · rw [List.getElem?_append_left (by rw [R.len]; exact i1)] at ai
        rw [List.getElem?_append_left (by rw [R.len]; exact j1)] at aj
        exact R.nd i j x y b i2 j2 lx ly ai aj
      · rcases snoc_ad R ai with ⟨_, a2⟩ | ⟨a1, _⟩
        · rcases snoc_ad R aj with ⟨b1, _⟩ | ⟨_, b2⟩
          · omega
          · obtain ⟨u, hu⟩ := R.live a2 i2 lx
            rw [b2, hp (by rw [← j2]; exact ly)] at hu
            cases hu
        · omega
    · rcases snoc_get hj with ⟨j1, j2⟩ | ⟨j1, j2⟩
      · rcases snoc_ad R aj with ⟨_, a2⟩ | ⟨a1, _⟩
        · rcases snoc_ad R ai with ⟨b1, _⟩ | ⟨_, b2⟩
          · omega
          · obtain ⟨u, hu⟩ := R.live a2 j2 ly
            rw [b2, hp (by rw [← i2]; exact lx)] at hu
            cases hu
        · omega
      · omega
  at_ := fun j o' b ho' hb => by
    rcases snoc_get ho' with ⟨j1, j2⟩ | ⟨j1, j2⟩
    · rcases snoc_ad R hb with ⟨_, a2⟩ | ⟨a1, _⟩
      · refine (R.at_ j o' b j2 a2).keep pre_snoc fun l => ?_
        obtain ⟨u, hu⟩ := R.live a2 j2 l
        rw [hu, k _ _ hu]
      · omega
    · rcases snoc_ad R hb with ⟨a1, _⟩ | ⟨_, a2⟩
      · omega
      · rw [j2, a2]
        exact hn
  ex := fun j c fs b ho' hb => by
    rcases snoc_get ho' with ⟨j1, j2⟩ | ⟨j1, j2⟩
    · rcases snoc_ad R hb with ⟨_, a2⟩ | ⟨a1, _⟩
      · obtain ⟨d, x1, x2⟩ := R.ex j c fs b j2 a2
        refine ⟨d, x1, x2.keep pre_snoc fun dd gs e n => ⟨k _ _ e, fun i o2 b2 q1 q2 q3 => ?_⟩⟩
        rcases snoc_get q1 with ⟨i1, i2⟩ | ⟨i1, i2⟩
        · rcases snoc_ad R q3 with ⟨_, a3⟩ | ⟨a3, _⟩
          · exact n i o2 b2 i2 q2 a3
          · omega
        · rcases snoc_ad R q3 with ⟨a3, _⟩ | ⟨_, a3⟩
          · omega
          · rw [a3]
            intro z
            rw [← z, hp (by rw [← i2]; exact q2)] at e
            cases e
      · omega
    · rcases snoc_ad R hb with ⟨a1, _⟩ | ⟨_, a2⟩
      · omega
      · rw [j1, a2]
        exact hx c fs j2.symm
theorem Rel.push (R : Rel cls as st H) (hp : H p = none) (hn : OR cls (as ++ [p]) (upd H p ho) p o) (hx : ∀ c fs, o ≠ .exc c fs := by intro _ _ z; cases z) : Rel cls (as ++ [p]) (st ++ [o]) (upd H p ho) :=
  R.pushO (fun a u e => by rw [upd_ne (ne_of_none e hp)]; exact e) (fun _ => hp) hn fun c fs z => absurd z (hx c fs)
/-- something that the store does not tell -/
theorem Rel.hid (R : Rel cls as st H) (k : ∀ a u, H a = some u → H' a = some u) : Rel cls as st H' where
  len := R.len
  nd := R.nd
  at_ := fun j o' b ho' hb => (R.at_ j o' b ho' hb).keep (List.prefix_refl _) fun l => by
    obtain ⟨u, hu⟩ := R.live hb ho' l
    rw [hu, k _ _ hu]
  ex := fun j c fs b ho' hb => by
    obtain ⟨d, x1, x2⟩ := R.ex j c fs b ho' hb
    exact ⟨d, x1, x2.keep (List.prefix_refl _) fun dd gs e n => ⟨k _ _ e, n⟩⟩
theorem Rel.laid (R : Rel cls as st H) (hp : H p = none) : Rel cls as st (upd H p ho) := R.hid fun a u e => by rw [upd_ne (ne_of_none e hp)]; exact e
theorem set_get {st : Store} {i j : Nat} {o o' : IO} (h : (st.set i o)[j]? = some o') : (j = i ∧ o' = o) ∨ (j ≠ i ∧ st[j]? = some o') := by
  by_cases hj : j = i
  · subst hj
    by_cases hl : j < st.length
    · rw [List.getElem?_set_self hl] at h
      exact .inl ⟨rfl, (Option.some.inj h).symm⟩
    · rw [List.getElem?_eq_none_iff.mpr (by rw [List.length_set]; omega)] at h
      cases h
  · rw [List.getElem?_set_ne (Ne.symm hj)] at h
    exact .inr ⟨hj, h⟩
/-- an entry that is live is stored anew -/
theorem Rel.set (R : Rel cls as st H) (hi : as[i]? = some a) {o0 : IO} (h0 : st[i]? = some o0) (l0 : Mi.live o0 = true) (hn : OR cls as (upd H a ho) a o) (hx : ∀ c fs, o ≠ .exc c fs := by intro _ _ z; cases z) : Rel cls as (st.set i o) (upd H a ho) where
  len := by rw [List.length_set]; exact R.len
  nd := fun x y u w b hx' hy' lu lw ax ay => by
    rcases set_get hx' with ⟨x1, x2⟩ | ⟨x1, x2⟩
    · rcases set_get hy' with ⟨y1, y2⟩ | ⟨y1, y2⟩
      · omega
      · subst x1
        exact R.nd x y o0 w b h0 y2 l0 lw ax ay
    · rcases set_get hy' with ⟨y1, y2⟩ | ⟨y1, y2⟩
      · subst y1
        exact R.nd x y u o0 b x2 h0 lu l0 ax ay
      · exact R.nd x y u w b x2 y2 lu lw ax ay
  at_ := fun j o' b ho' hb => by
    rcases set_get ho' with ⟨x1, x2⟩ | ⟨x1, x2⟩
    · subst x1
      cases hi.symm.trans hb
      rw [x2]
      exact hn
    · refine (R.at_ j o' b x2 hb).keep (List.prefix_refl _) fun l => upd_ne fun e => ?_
      subst e
      exact x1 (R.nd j i o' o0 b x2 h0 l l0 hb hi)
  ex := fun j c fs b ho' hb => by
    rcases set_get ho' with ⟨x1, x2⟩ | ⟨x1, x2⟩
    · exact absurd x2.symm (hx c fs)
    · obtain ⟨d, q1, q2⟩ := R.ex j c fs b x2 hb
      refine ⟨d, q1, q2.keep (List.prefix_refl _) fun dd gs e n => ⟨?_, fun x u b2 z1 z2 z3 => ?_⟩⟩
      · rw [upd_ne (Ne.symm (n i o0 a h0 l0 hi))]
        exact e
      · rcases set_get z1 with ⟨y1, y2⟩ | ⟨y1, y2⟩
        · subst y1
          exact n x o0 b2 h0 l0 z3
        · exact n x u b2 y2 z2 z3
/-- an entry is told no more -/
theorem Rel.kill (R : Rel cls as st H) : Rel cls as (st.set i .dead) H where
  len := by rw [List.length_set]; exact R.len
  nd := fun x y u w b hx' hy' lu lw ax ay => by
    rcases set_get hx' with ⟨x1, x2⟩ | ⟨x1, x2⟩
    · rw [x2] at lu
      cases lu
    · rcases set_get hy' with ⟨y1, y2⟩ | ⟨y1, y2⟩
      · rw [y2] at lw
        cases lw
      · exact R.nd x y u w b x2 y2 lu lw ax ay
  at_ := fun j o' b ho' hb => by
    rcases set_get ho' with ⟨x1, x2⟩ | ⟨x1, x2⟩
    · rw [x2]
      trivial
    · exact R.at_ j o' b x2 hb
  ex := fun j c fs b ho' hb => by
    rcases set_get ho' with ⟨x1, x2⟩ | ⟨x1, x2⟩
    · cases x2
    · obtain ⟨d, q1, q2⟩ := R.ex j c fs b x2 hb
      refine ⟨d, q1, q2.keep (List.prefix_refl _) fun dd gs e n => ⟨e, fun x u b2 z1 z2 z3 => ?_⟩⟩
      rcases set_get z1 with ⟨y1, y2⟩ | ⟨y1, y2⟩
      · rw [y2] at z2
        cases z2
      · exact n x u b2 y2 z2 z3
theorem XF.kill {fs : List (Str × V)} {d : Option Addr} (h : XF as st fs d H) : XF as (st.set i .dead) fs d H := h.keep (List.prefix_refl _) fun dd gs e n => ⟨e, fun x u b2 z1 z2 z3 => by
  rcases set_get z1 with ⟨y1, y2⟩ | ⟨y1, y2⟩
  · rw [y2] at z2
    cases z2
  · exact n x u b2 y2 z2 z3⟩
/-- the same store, the exceptions known otherwise -/
theorem Rel.xi {xi : Nat → Addr → Value → Option Addr → Prop} (R : Rel cls as st H) (h : ∀ (i : Nat) (c : Str) (fs : List (Str × V)) (a : Addr) (d : Option Addr), st[i]? = some (.exc c fs) → cls.xi i a (.ref (cls c)) d → xi i a (.ref (cls c)) d) : Rel (cls.x xi) as st H where
  len := R.len
  nd := R.nd
  at_ := fun j o b ho hb => by
    have := R.at_ j o b ho hb
    cases o <;> exact this
  ex := fun j c fs b ho hb => by
    obtain ⟨d, q1, q2⟩ := R.ex j c fs b ho hb
    exact ⟨d, h j c fs b d ho q1, q2⟩
theorem VR.new (R : Rel cls as st H) : VR (as ++ [p]) (.ref st.length) (.ref p) := by
  refine ⟨p, ?_, rfl⟩
  rw [← R.len, List.getElem?_append_right (Nat.le_refl _), Nat.sub_self]
  rfl
end

/-! ### slots -/
structure SR (as : List Addr) (env : Ev) (σ : L2.St) : Prop where
  len : env.length = σ.length
  at_ : ∀ (i : Nat) (v : V), env[i]? = some (some v) → ∃ w, σ[i]? = some (some w) ∧ VR as v w
section
variable {as as' : List Addr} {env : Ev} {σ : L2.St} {v w : V}
theorem SR.mono (h : as <+: as') (s : SR as env σ) : SR as' env σ := ⟨s.len, fun i v e => by
  obtain ⟨w, q, r⟩ := s.at_ i v e
  exact ⟨w, q, r.mono h⟩⟩
theorem SR.set (s : SR as env σ) (r : VR as v w) (i : Nat) : SR as (env.set i (some v)) (σ.set i (some w)) := ⟨by rw [List.length_set, List.length_set]; exact s.len, fun j u e => by
  by_cases hj : j = i
  · subst hj
    by_cases hl : j < env.length
    · rw [List.getElem?_set_self hl] at e
      have e1 : v = u := Option.some.inj (Option.some.inj e)
      subst e1
      exact ⟨w, List.getElem?_set_self (by rw [← s.len]; exact hl), r⟩
    · rw [List.getElem?_eq_none_iff.mpr (by rw [List.length_set]; omega)] at e
      cases e
  · rw [List.getElem?_set_ne (Ne.symm hj)] at e
    obtain ⟨w', q, r'⟩ := s.at_ j u e
    exact ⟨w', by rw [List.getElem?_set_ne (Ne.symm hj)]; exact q, r'⟩⟩
theorem SR.unset (s : SR as env σ) (i : Nat) : SR as (env.set i none) (σ.set i none) := ⟨by rw [List.length_set, List.length_set]; exact s.len, fun j u e => by
  by_cases hj : j = i
  · subst hj
    by_cases hl : j < env.length
    · rw [List.getElem?_set_self hl] at e
      cases e
    · rw [List.getElem?_eq_none_iff.mpr (by rw [List.length_set]; omega)] at e
      cases e
  · rw [List.getElem?_set_ne (Ne.symm hj)] at e
    obtain ⟨w', q, r'⟩ := s.at_ j u e
    exact ⟨w', by rw [List.getElem?_set_ne (Ne.symm hj)]; exact q, r'⟩⟩
theorem SR.wipe (s : SR as env σ) : ∀ vs : List Nat, SR as (wipe env vs) (L2.wipe σ vs)
  | [] => s
  | v :: vs => (SR.wipe s vs).unset v
theorem SR.start {N : List Str} {vs ws : List V} (r : VRs as vs ws) : SR as (start N vs) (L2.start N ws) := by
  refine ⟨?_, fun i v e => ?_⟩
  · unfold L2.start
    rw [List.length_append, List.length_append, List.length_map, List.length_map, List.length_replicate, List.length_replicate, P.length r]
  · unfold L2.start at e ⊢
    by_cases hi : i < vs.length
    · rw [List.getElem?_append_left (by rw [List.length_map]; exact hi), List.getElem?_map] at e
      have hi2 : i < ws.length := by rw [← P.length r]; exact hi
      rw [List.getElem?_append_left (by rw [List.length_map]; exact hi2), List.getElem?_map]
      rw [List.getElem?_eq_getElem hi] at e
      have e1 : vs[i] = v := Option.some.inj (Option.some.inj e)
      obtain ⟨y, q, f⟩ := P.get r (List.getElem?_eq_getElem hi)
      rw [e1] at f
      exact ⟨y, by rw [q]; rfl, f⟩
    · rw [List.getElem?_append_right (by rw [List.length_map]; omega)] at e
      have := List.getElem?_replicate (a := (none : Option V)) (n := N.length - vs.length) (i := i - (vs.map some).length)
      rw [this] at e
      split at e <;> cases e
end

/-! ### what must follow -/
section
variable (cls : Cz)
/-- an exception as the layer tells it -/
def XR (as : List Addr) (st : Store) (c : Str) (fs : List (Str × V)) (cv : Value) (d : Option Addr) (H : Hp) : Prop := cv = .ref (cls c) ∧ XF as st fs d H
def PV (as : List Addr) (r : R) (Q : VK) (X : XK) : Prop := match r with
  | .val [v] st => ∀ as' w H, as <+: as' → Rel cls as' st H → VR as' v w → Q w H
  | .exc c fs _ st => ∀ as' H cv d, as <+: as' → Rel cls as' st H → XR cls as' st c fs cv d H → X cv d H
  | _ => False
def PL (as : List Addr) (r : R) (Q : List V → Hp → Prop) (X : XK) : Prop := match r with
  | .val vs st => ∀ as' ws H, as <+: as' → Rel cls as' st H → VRs as' vs ws → Q ws H
  | .exc c fs _ st => ∀ as' H cv d, as <+: as' → Rel cls as' st H → XR cls as' st c fs cv d H → X cv d H
  | _ => False
/-- a statement -/
def PF (as : List Addr) (r : R) (D : Ends) (W : WX) : Prop := match r with
  | .nxt env st => ∀ as' σ H, as <+: as' → Rel cls as' st H → SR as' env σ → D.nx σ H
  | .ret v st => ∀ as' w H, as <+: as' → Rel cls as' st H → VR as' v w → D.rt w H
  | .exc c fs env st => ∀ as' σ H cv d, as <+: as' → Rel cls as' st H → SR as' env σ → XR cls as' st c fs cv d H → W cv d σ H
  | _ => False
end
section
variable {cls : Cz} {as as' : List Addr} {r : R} {Q : VK} {X : XK} {D : Ends} {W : WX}
theorem PV.mono (h : as <+: as') (p : PV cls as r Q X) : PV cls as' r Q X := by
  unfold PV at p ⊢
  split
  · exact fun a w H q => p a w H (h.trans q)
  · exact fun a H cv d q => p a H cv d (h.trans q)
  · rename_i h1 h2
    split at p
    · exact absurd rfl (h1 _ _)
    · exact absurd rfl (h2 _ _ _ _)
    · exact p
theorem PL.mono {Q : List V → Hp → Prop} (h : as <+: as') (p : PL cls as r Q X) : PL cls as' r Q X := by
  unfold PL at p ⊢
  split
  · exact fun a w H q => p a w H (h.trans q)
  · exact fun a H cv d q => p a H cv d (h.trans q)
  · rename_i h1 h2
    split at p
    · exact absurd rfl (h1 _ _)
    · exact absurd rfl (h2 _ _ _ _)
    · exact p
theorem PF.mono (h : as <+: as') (p : PF cls as r D W) : PF cls as' r D W := by
  unfold PF at p ⊢
  split
  · exact fun a w H q => p a w H (h.trans q)
  · exact fun a w H q => p a w H (h.trans q)
  · exact fun a σ H cv d q => p a σ H cv d (h.trans q)
  · rename_i h1 h2 h3
    split at p
    · exact absurd rfl (h1 _ _)
    · exact absurd rfl (h2 _ _)
    · exact absurd rfl (h3 _ _ _ _)
    · exact p
/-- a value is there -/
theorem PV.got {v : V} {st : Store} {w : V} {H : Hp} (p : PV cls as (one v st) Q X) (R : Rel cls as st H) (r : VR as v w) : Q w H := p as w H (List.prefix_refl _) R r
/-- a new object is there -/
theorem PV.laid {o : IO} {st : Store} {H : Hp} {a : Addr} {ho : HO} (p : PV cls as (new o st) Q X) (R : Rel cls as st H) (ha : H a = none) (hn : OR cls (as ++ [a]) (upd H a ho) a o) (hx : ∀ c fs, o ≠ .exc c fs := by intro _ _ z; cases z) : Q (.ref a) (upd H a ho) :=
  p (as ++ [a]) (.ref a) (upd H a ho) pre_snoc (R.push ha hn hx) (VR.new R)
end

/-! ### readings for a family of contexts -/
section
variable (G : Cx → Prop)
def UE (e : Expr) : TE := fun σ H Q => ∃ t, (∀ X, G X → PE X e t) ∧ t σ H Q
def UT (e : Expr) : TT := fun σ H Q => ∃ t, (∀ X, G X → PT X e t) ∧ t σ H Q
def UA (es : List Expr) : TA := fun σ H Q => ∃ t, (∀ X, G X → PA X es t) ∧ t σ H Q
def UI (tg it : Expr) : TI := fun σ H Q => ∃ t, (∀ X, G X → PIU QX X tg it t) ∧ t σ H Q
def UG (tg : Expr) : TG := fun v σ H Q => ∃ t, (∀ X, G X → PG X tg t) ∧ t v σ H Q
def UTs (ifs : List Expr) : TT := fun σ H Q => ∃ t, (∀ X, G X → PTs X ifs t) ∧ t σ H Q
def UO (e : Option Expr) : TO := fun σ H Q => ∃ t, (∀ X, G X → PO X e t) ∧ t σ H Q
def US (st : Stmt) : TS := fun D σ H => ∃ t, (∀ X, G X → PS X st t) ∧ t D σ H
def USs (st : List Stmt) : TS := fun D σ H => ∃ t, (∀ X, G X → PSs X st t) ∧ t D σ H
def UOp (f : Value → Value → Sem Value) : R2 := fun x y H Q => ∃ r, (∀ X, G X → OpR X f r) ∧ r x y H Q
def UIx : R2 := fun x y H Q => ∃ r, (∀ X, G X → IxR X r) ∧ r x y H Q
def USl : V → Option Int → Option Int → Hp → VK → Prop := fun x lo hi H Q => ∃ r, (∀ X, G X → SlR X r) ∧ r x lo hi H Q
def UC (f : Value) : List V → Hp → VK → Prop := fun vs H Q => ∃ r, (∀ X, G X → CallR X f r) ∧ r vs H Q
def UM (id : String) : V → List V → Hp → VK → Prop := fun x vs H Q => ∃ r, (∀ X, G X → MtR X id r) ∧ r x vs H Q
def USet : TSet := fun o i v H Q => ∃ t, (∀ X, G X → PSet X t) ∧ t o i v H Q
end
section
variable {G : Cx → Prop} {X : Cx}
theorem pe_U {e : Expr} (h : G X) : PE X e (UE G e) := ⟨fun pins s σ H Q I ⟨t, ht, q⟩ => (ht X h).run pins s σ H Q I q⟩
theorem pt_U {e : Expr} (h : G X) : PT X e (UT G e) := ⟨fun pins s σ H Q I ⟨t, ht, q⟩ => (ht X h).run pins s σ H Q I q⟩
theorem pa_U {es : List Expr} (h : G X) : PA X es (UA G es) := ⟨fun pos pins s σ H Q I ⟨t, ht, q⟩ => (ht X h).run pos pins s σ H Q I q⟩
theorem pi_U {tg it : Expr} (h : G X) : PIU QX X tg it (UI G tg it) := ⟨fun pins s σ H Q I ⟨t, ht, q⟩ => (ht X h).run pins s σ H Q I q⟩
theorem pg_U {tg : Expr} (h : G X) : PG X tg (UG G tg) := ⟨fun pins s σ H v u Q I r ⟨t, ht, q⟩ => (ht X h).run pins s σ H v u Q I r q⟩
theorem pts_U {ifs : List Expr} (h : G X) : PTs X ifs (UTs G ifs) := ⟨fun pins s σ H Q I ⟨t, ht, q⟩ => (ht X h).run pins s σ H Q I q⟩
theorem po_U {e : Option Expr} (h : G X) : PO X e (UO G e) := ⟨fun pins s σ H Q I ⟨t, ht, q⟩ => (ht X h).run pins s σ H Q I q⟩
theorem ps_U {st : Stmt} (h : G X) : PS X st (US G st) := ⟨fun pins s σ H D I ⟨t, ht, q⟩ => (ht X h).run pins s σ H D I q⟩
theorem pss_U {st : List Stmt} (h : G X) : PSs X st (USs G st) := ⟨fun pins s σ H D I ⟨t, ht, q⟩ => (ht X h).run pins s σ H D I q⟩
theorem op_U {f : Value → Value → Sem Value} (h : G X) : OpR X f (UOp G f) := fun pins s σ H x y v u Q I r1 r2 ⟨t, ht, q⟩ => ht X h pins s σ H x y v u Q I r1 r2 q
theorem ix_U (h : G X) : IxR X (UIx G) := fun va sl pins s σ H x y v u Q I r1 r2 ⟨t, ht, q⟩ => ht X h va sl pins s σ H x y v u Q I r1 r2 q
theorem sl_U (h : G X) : SlR X (USl G) := fun pins s σ H x v vl vu lo hi sl Q I r hs p1 p2 ⟨t, ht, q⟩ => ht X h pins s σ H x v vl vu lo hi sl Q I r hs p1 p2 q
theorem call_U {f : Value} (h : G X) : CallR X f (UC G f) := fun pins s σ H xs us Q I r ⟨t, ht, q⟩ => ht X h pins s σ H xs us Q I r q
theorem mt_U {id : String} (h : G X) : MtR X id (UM G id) := fun pins s σ H x xs v us Q I r1 r2 ⟨t, ht, q⟩ => ht X h pins s σ H x xs v us Q I r1 r2 q
theorem set_U (h : G X) : PSet X (USet G) := fun pins s σ H o i v ov iv u Q I r1 r2 r3 ⟨t, ht, q⟩ => ht X h pins s σ H o i v ov iv u Q I r1 r2 r3 q
end

/-! ### soundness of a piece of syntax against a run -/
section
variable (cls : Cz) (G : Cx → Prop) (W : WX)
def SE (e : Expr) (f : Ev → Store → R) : Prop := ∀ env st as σ H Q, Rel cls as st H → SR as env σ → PV cls as (f env st) Q (fun c d H' => W c d σ H') → UE G e σ H Q
/-- a test: by its value's truth -/
def ST (e : Expr) (f : Ev → Store → R) : Prop := ∀ env st as σ H (Q : Bool → Hp → Prop), Rel cls as st H → SR as env σ →
  (match f env st with
    | .val [v] st' => ∃ b, truth v st' = some b ∧ ∀ as' H', as <+: as' → Rel cls as' st' H' → Q b H'
    | .exc c fs _ st' => ∀ as' H' cv d, as <+: as' → Rel cls as' st' H' → XR cls as' st' c fs cv d H' → W cv d σ H'
    | _ => False) → UT G e σ H Q
def SA (es : List Expr) (f : Ev → Store → R) : Prop := ∀ env st as σ H Q, Rel cls as st H → SR as env σ → PL cls as (f env st) Q (fun c d H' => W c d σ H') → UA G es σ H Q
def SO (e : Option Expr) (f : Ev → Store → R) : Prop := ∀ env st as σ H (Q : Option Int → Hp → Prop), Rel cls as st H → SR as env σ →
  (match f env st with
    | .val vs st' => ∃ l, part vs = some l ∧ ∀ as' H', as <+: as' → Rel cls as' st' H' → Q l H'
    | .exc c fs _ st' => ∀ as' H' cv d, as <+: as' → Rel cls as' st' H' → XR cls as' st' c fs cv d H' → W cv d σ H'
    | _ => False) → UO G e σ H Q
def SS (s : Stmt) (f : Ev → Store → R) : Prop := ∀ env st as σ H D, Rel cls as st H → SR as env σ → PF cls as (f env st) D W → US G s D σ H
def SSs (s : List Stmt) (f : Ev → Store → R) : Prop := ∀ env st as σ H D, Rel cls as st H → SR as env σ → PF cls as (f env st) D W → USs G s D σ H
end
section
variable {cls : Cz} {G : Cx → Prop} {W : WX} {e : Expr} {es : List Expr} {f : Ev → Store → R} {env : Ev} {st : Store} {as : List Addr} {σ : L2.St} {H : Hp} {Q : VK} {X : XK}
/-- one value, then the rest -/
theorem SE.go (h : SE cls G W e f) (h0 : Rel cls as st H) (S : SR as env σ) {k : V → Store → R} (hP : PV cls as ((f env st).b1 k) Q (fun c d H' => W c d σ H')) {Q' : VK}
    (g : ∀ v st1 as1 w H1, as <+: as1 → Rel cls as1 st1 H1 → SR as1 env σ → VR as1 v w → PV cls as1 (k v st1) Q (fun c d H' => W c d σ H') → Q' w H1) : UE G e σ H Q' := by
  refine h env st as σ H Q' h0 S ?_
  cases q : f env st with
  | val vs st1 =>
    rw [q] at hP
    match vs, hP with
    | [v], hP => exact fun as1 w H1 p R1 r => g v st1 as1 w H1 p R1 (S.mono p) r (hP.mono p)
    | [], hP => exact hP.elim
    | _ :: _ :: _, hP => exact hP.elim
  | exc c fs en st1 =>
    rw [q] at hP
    exact hP
  | nxt a b => rw [q] at hP; exact hP.elim
  | ret a b => rw [q] at hP; exact hP.elim
  | stk => rw [q] at hP; exact hP.elim
/-- the same, to a list's end -/
theorem SE.goL {QL : List V → Hp → Prop} (h : SE cls G W e f) (h0 : Rel cls as st H) (S : SR as env σ) {k : V → Store → R} (hP : PL cls as ((f env st).b1 k) QL (fun c d H' => W c d σ H')) {Q' : VK}
    (g : ∀ v st1 as1 w H1, as <+: as1 → Rel cls as1 st1 H1 → SR as1 env σ → VR as1 v w → PL cls as1 (k v st1) QL (fun c d H' => W c d σ H') → Q' w H1) : UE G e σ H Q' := by
  refine h env st as σ H Q' h0 S ?_
  cases q : f env st with
  | val vs st1 =>
    rw [q] at hP
    match vs, hP with
    | [v], hP => exact fun as1 w H1 p R1 r => g v st1 as1 w H1 p R1 (S.mono p) r (hP.mono p)
    | [], hP => exact hP.elim
    | _ :: _ :: _, hP => exact hP.elim
  | exc c fs en st1 =>
    rw [q] at hP
    exact hP
  | nxt a b => rw [q] at hP; exact hP.elim
  | ret a b => rw [q] at hP; exact hP.elim
  | stk => rw [q] at hP; exact hP.elim
/-- the same, to a statement's end -/
theorem SE.goF {D : Ends} (h : SE cls G W e f) (h0 : Rel cls as st H) (S : SR as env σ) {k : V → Store → R} (hx : ∀ c fs en st1, f env st = .exc c fs en st1 → en = env) (hP : PF cls as ((f env st).b1 k) D W) {Q' : VK}
    (g : ∀ v st1 as1 w H1, as <+: as1 → Rel cls as1 st1 H1 → SR as1 env σ → VR as1 v w → PF cls as1 (k v st1) D W → Q' w H1) : UE G e σ H Q' := by
  refine h env st as σ H Q' h0 S ?_
  cases q : f env st with
  | val vs st1 =>
    rw [q] at hP
    match vs, hP with
    | [v], hP => exact fun as1 w H1 p R1 r => g v st1 as1 w H1 p R1 (S.mono p) r (hP.mono p)
    | [], hP => exact hP.elim
    | _ :: _ :: _, hP => exact hP.elim
  | exc c fs en st1 =>
    have := hx c fs en st1 q
    subst this
    rw [q] at hP
    exact fun as1 H1 cv d p R1 x => hP as1 σ H1 cv d p R1 (S.mono p) x
  | nxt a b => rw [q] at hP; exact hP.elim
  | ret a b => rw [q] at hP; exact hP.elim
  | stk => rw [q] at hP; exact hP.elim
/-- an argument list, then the rest -/
theorem SA.go (h : SA cls G W es f) (h0 : Rel cls as st H) (S : SR as env σ) {k : List V → Store → R} (hP : PV cls as ((f env st).bs k) Q (fun c d H' => W c d σ H')) {Q' : List V → Hp → Prop}
    (g : ∀ vs st1 as1 ws H1, as <+: as1 → Rel cls as1 st1 H1 → SR as1 env σ → VRs as1 vs ws → PV cls as1 (k vs st1) Q (fun c d H' => W c d σ H') → Q' ws H1) : UA G es σ H Q' := by
  refine h env st as σ H Q' h0 S ?_
  cases q : f env st with
  | val vs st1 =>
    rw [q] at hP
    exact fun as1 w H1 p R1 r => g vs st1 as1 w H1 p R1 (S.mono p) r (hP.mono p)
  | exc c fs en st1 =>
    rw [q] at hP
    exact hP
  | nxt a b => rw [q] at hP; exact hP.elim
  | ret a b => rw [q] at hP; exact hP.elim
  | stk => rw [q] at hP; exact hP.elim
theorem SA.goL {QL : List V → Hp → Prop} (h : SA cls G W es f) (h0 : Rel cls as st H) (S : SR as env σ) {k : List V → Store → R} (hP : PL cls as ((f env st).bs k) QL (fun c d H' => W c d σ H')) {Q' : List V → Hp → Prop}
    (g : ∀ vs st1 as1 ws H1, as <+: as1 → Rel cls as1 st1 H1 → SR as1 env σ → VRs as1 vs ws → PL cls as1 (k vs st1) QL (fun c d H' => W c d σ H') → Q' ws H1) : UA G es σ H Q' := by
  refine h env st as σ H Q' h0 S ?_
  cases q : f env st with
  | val vs st1 =>
    rw [q] at hP
    exact fun as1 w H1 p R1 r => g vs st1 as1 w H1 p R1 (S.mono p) r (hP.mono p)
  | exc c fs en st1 =>
    rw [q] at hP
    exact hP
  | nxt a b => rw [q] at hP; exact hP.elim
  | ret a b => rw [q] at hP; exact hP.elim
  | stk => rw [q] at hP; exact hP.elim
end
end Mi
set_option maxHeartbeats 1000000
/-! Mi: the operations. -/
namespace Mi
open PySem PySem.Spec PyProof.Rows L2 L2H

/-- what the operations ask of a context -/
structure GB (K : PySem.W.Frag) (mo : Mo) (X : Cx) : Prop where
  k : X.K = K
  calm : mo = .on false → X.calm = true
  q : mo.q = true → QX X
  room : RoomH 1 X.A
theorem GB.units {K : PySem.W.Frag} {mo : Mo} {X : Cx} (g : GB K mo X) : X.A.units + 64 < cLine := by have := g.room.un; omega

section
variable {cls : Cz} {G : Cx → Prop} {K : PySem.W.Frag} {mo : Mo} {as : List Addr} {st : Store} {H : Hp} {Q : VK} {X : XK} {x y u v w : V} {o : IO}

theorem int_of {i : Int} (h : VR as (.int i) w) : w = .int i := h
theorem str_of {i : Str} (h : VR as (.str i) w) : w = .str i := h
theorem Rel.lst (R : Rel cls as st H) {p : Nat} {xs : List V} (h : VR as (.ref p) w) (e : st[p]? = some (.lst xs)) : ∃ a ys, w = .ref a ∧ as[p]? = some a ∧ VRs as xs ys ∧ H a = some (.lst ys) := by
  obtain ⟨a, rfl, q, ys, r, z⟩ := R.ref h e
  exact ⟨a, ys, rfl, q, r, z⟩
theorem Rel.tup (R : Rel cls as st H) {p : Nat} {xs : List V} (h : VR as (.ref p) w) (e : st[p]? = some (.tup xs)) : ∃ a ys, w = .ref a ∧ as[p]? = some a ∧ VRs as xs ys ∧ H a = some (.tup ys) := by
  obtain ⟨a, rfl, q, ys, r, z⟩ := R.ref h e
  exact ⟨a, ys, rfl, q, r, z⟩
theorem Rel.fro (R : Rel cls as st H) {p : Nat} {xs : List V} (h : VR as (.ref p) w) (e : st[p]? = some (.fro xs)) : ∃ a ys, w = .ref a ∧ as[p]? = some a ∧ VRs as xs ys ∧ Rd H a (.lst ys) := by
  obtain ⟨a, rfl, q, ys, r, z⟩ := R.ref h e
  exact ⟨a, ys, rfl, q, r, z⟩
theorem Rel.dK (R : Rel cls as st H) {p : Nat} {xs : List (Key × V)} (h : VR as (.ref p) w) (e : st[p]? = some (.dK xs)) : ∃ a ys, w = .ref a ∧ as[p]? = some a ∧ KRs as xs ys ∧ H a = some (.dK ys) := by
  obtain ⟨a, rfl, q, ys, r, z⟩ := R.ref h e
  exact ⟨a, ys, rfl, q, r, z⟩
theorem Rel.ins (R : Rel cls as st H) {p : Nat} {c : Str} {fs : List (Str × V)} (h : VR as (.ref p) w) (e : st[p]? = some (.ins c fs)) : ∃ a dx gs, w = .ref a ∧ as[p]? = some a ∧ KRs as fs gs ∧ H a = some (.ins (cls c) dx gs) := by
  obtain ⟨a, rfl, q, dx, ys, r, z⟩ := R.ref h e
  exact ⟨a, dx, ys, rfl, q, r, z⟩
/-- a list or a tuple that is read -/
theorem Rel.items (R : Rel cls as st H) {xs : List V} (h : VR as v w) (e : items st v = some xs) : ∃ a ys, w = .ref a ∧ VRs as xs ys ∧ (SqL K H a ys ∨ SqT K H a ys) := by
  cases v with
  | ref p =>
    have e2 : (match st[p]? with
      | some (.lst xs) => some xs
      | some (.fro xs) => some xs
      | some (.tup xs) => some xs
      | _ => none) = some xs := e
    split at e2
    · rename_i ys q
      cases e2
      obtain ⟨a, zs, rfl, _, r, z⟩ := R.lst h q
      exact ⟨a, zs, rfl, r, .inl (SqL.of z)⟩
    · rename_i ys q
      cases e2
      obtain ⟨a, zs, rfl, _, r, z⟩ := R.fro h q
      exact ⟨a, zs, rfl, r, .inl (.inl z)⟩
    · rename_i ys q
      cases e2
      obtain ⟨a, zs, rfl, _, r, z⟩ := R.tup h q
      exact ⟨a, zs, rfl, r, .inr (SqT.of z)⟩
    · cases e2
  | _ => cases e
/-- a new list -/
theorem PV.newL {xs ys : List V} {a : Addr} (p : PV cls as (new (.lst xs) st) Q X) (R : Rel cls as st H) (r : VRs as xs ys) (ha : H a = none) : Q (.ref a) (upd H a (.lst ys)) :=
  p.laid R ha ⟨ys, r.mono pre_snoc, upd_same⟩
theorem PV.newT {xs ys : List V} {a : Addr} (p : PV cls as (new (.tup xs) st) Q X) (R : Rel cls as st H) (r : VRs as xs ys) (ha : H a = none) : Q (.ref a) (upd H a (.tup ys)) :=
  p.laid R ha ⟨ys, r.mono pre_snoc, upd_same⟩
/-- an object is changed -/
theorem PV.put {i : Nat} {a : Addr} {ho : HO} {o0 : IO} (p : PV cls as (one v (st.set i o)) Q X) (R : Rel cls as st H) (hi : as[i]? = some a) (h0 : st[i]? = some o0) (l0 : live o0 = true) (hn : OR cls as (upd H a ho) a o) (r : VR as v w) (hx : ∀ c fs, o ≠ .exc c fs := by intro _ _ z; cases z) : Q w (upd H a ho) :=
  p.got (R.set hi h0 l0 hn hx) r

/-! ### two-place operators -/
theorem mulOk_of {i j : Int} (h : mulOk i j = true) : CMul i j ∨ CMulX i j := by
  unfold mulOk at h
  rcases Bool.or_eq_true_iff.mp h with h | h
  · rcases Bool.or_eq_true_iff.mp h with h | h
    · have := of_decide_eq_true h
      exact .inl (.inl (by omega))
    · have := of_decide_eq_true h
      exact .inl (.inr (by omega))
  · exact .inr (of_decide_eq_true h : (Builtin.Int.intBits i : Int) + (Builtin.Int.intBits j : Int) ≤ 134217728)
theorem fmod_ok {i j : Int} (h : j ≠ 0) : True := trivial

/-- // of any divisor of fewer than nine thousand bits -/
def CDivL (_ j : Int) : Prop := j ≠ 0 ∧ j.natAbs.log2 < 9000
theorem op_fdivL {X : Cx} : OpR X (binaryOp .FloorDiv) (rI CDivL fun i j => .int (i.fdiv j)) := opI fun _ _ _ _ _ _ _ hc q => floordiv_int hc.1 q (.inl (PyProof.noPylong_of_log2 hc.2))
/-- a text some times -/
theorem op_mulT {X : Cx} : OpR X (binaryOp .Mult) (fun x y H Q => ∃ (a : Str) (n : Int), x = .str a ∧ y = .int n ∧ (-(2 ^ 63) ≤ n ∧ n ≤ 1048576 ∧ a.length ≤ 16) ∧ Q (.str (Txt.mul a n)) H) := by
  intro pins s σ H x y v u Q I rx ry h
  obtain ⟨a, n, rfl, rfl, ⟨h1, h2, h3⟩, q⟩ := h
  obtain ⟨t, rfl⟩ := rx
  obtain ⟨t', rfl⟩ := ry
  exact PySem.SB.mul (PyProof.Rows.mulOk_of 16 1048576 h3 h2 h1 (by decide) (by decide)) fun t2 k => ⟨.str (Txt.mul a n), H, I.tok k, ⟨t2, rfl⟩, q⟩

theorem bin_ok (hG : ∀ X, G X → GB K mo X) {op : Operator} (R : Rel cls as st H) (hx : VR as v x) (hy : VR as u y) (hP : PV cls as (binD op v u st) Q X) : UOp G (binaryOp op) x y H Q := by
  unfold binD at hP
  split at hP
  · cases hx; cases hy
    exact ⟨_, fun _ _ => op_add, _, _, rfl, rfl, hP.got R rfl⟩
  · cases hx; cases hy
    split at hP
    · rename_i hl
      exact ⟨_, fun _ _ => op_add_str, _, _, rfl, rfl, by rw [← sz_eq]; exact hl, hP.got R rfl⟩
    · exact hP.elim
  · split at hP
    · rename_i p q xs ys e1 e2
      obtain ⟨a, zs, rfl, i1, r1, z1⟩ := R.lst hx e1
      obtain ⟨b, ws, rfl, i2, r2, z2⟩ := R.lst hy e2
      split at hP
      · rename_i hl
        exact ⟨_, fun _ _ => op_cat, a, b, zs, ws, rfl, rfl, z1, z2, by rw [← sz_eq, ← P.length r1, ← P.length r2]; exact hl, fun p hp => hP.newL R (P.append r1 r2) hp⟩
      · exact hP.elim
    · exact hP.elim
  · cases hx; cases hy
    exact ⟨_, fun _ _ => op_sub, _, _, rfl, rfl, hP.got R rfl⟩
  · cases hx; cases hy
    split at hP
    · rename_i hl
      rcases mulOk_of hl with hl | hl
      · exact ⟨_, fun _ _ => op_mul, _, _, rfl, rfl, hl, hP.got R rfl⟩
      · exact ⟨_, fun _ _ => op_mulX, _, _, rfl, rfl, hl, hP.got R rfl⟩
    · exact hP.elim
  · cases hx; cases hy
    split at hP
    · rename_i hl
      exact ⟨_, fun _ _ => op_fdivN, _, _, rfl, rfl, hl, hP.got R rfl⟩
    · split at hP
      · rename_i hl
        exact ⟨_, fun _ _ => op_fdivW, _, _, rfl, rfl, hl, hP.got R rfl⟩
      · split at hP
        · rename_i hl
          exact ⟨_, fun _ _ => op_fdivL, _, _, rfl, rfl, hl, hP.got R rfl⟩
        · exact hP.elim
  · cases hx; cases hy
    split at hP
    · rename_i hl
      exact ⟨_, fun _ _ => op_modN, _, _, rfl, rfl, hl, hP.got R rfl⟩
    · exact hP.elim
  · cases hx; cases hy
    split at hP
    · rename_i hl
      exact ⟨_, fun _ _ => op_pow, _, _, rfl, rfl, hl, hP.got R rfl⟩
    · exact hP.elim
  · cases hx; cases hy
    exact ⟨_, fun _ _ => op_and, _, _, rfl, rfl, hP.got R rfl⟩
  · cases hx; cases hy
    exact ⟨_, fun _ _ => op_or, _, _, rfl, rfl, hP.got R rfl⟩
  · cases hx; cases hy
    exact ⟨_, fun _ _ => op_xor, _, _, rfl, rfl, hP.got R rfl⟩
  · cases hx; cases hy
    split at hP
    · rename_i hl
      exact ⟨_, fun _ _ => op_shlW, _, _, rfl, rfl, hl, hP.got R rfl⟩
    · exact hP.elim
  · cases hx; cases hy
    split at hP
    · rename_i hl
      exact ⟨_, fun _ _ => op_mulT, _, _, rfl, rfl, hl, hP.got R rfl⟩
    · exact hP.elim
  · cases hx; cases hy
    split at hP
    · rename_i hl
      exact ⟨_, fun _ _ => op_shr, _, _, rfl, rfl, hl, hP.got R rfl⟩
    · exact hP.elim
  · cases hy
    split at hP
    · rename_i p k xs e1
      obtain ⟨a, zs, rfl, i1, r1, z1⟩ := R.lst hx e1
      split at hP
      · rename_i hl
        exact ⟨_, fun _ _ => op_rep, a, _, zs, rfl, rfl, z1, hl.1, hl.2.1, by rw [← sz_eq, ← P.length r1]; exact hl.2.2, fun p hp => hP.newL R (P.flatten r1 _) hp⟩
      · exact hP.elim
    · exact hP.elim
  · exact hP.elim

/-! ### truth -/
theorem truth_ok (R : Rel cls as st H) (hx : VR as v x) {b : Bool} (h : truth v st = some b) : TruV K x H b := by
  unfold truth at h
  split at h
  · cases hx; exact (Option.some.inj h).symm
  · cases hx; exact (Option.some.inj h).symm
  · cases hx; exact (Option.some.inj h).symm
  · cases hx
    split at h
    · rename_i hl
      exact ⟨by rw [← sz_eq]; exact hl, (Option.some.inj h).symm⟩
    · cases h
  · split at h
    · rename_i p xs e
      obtain ⟨a, ys, rfl, _, r, z⟩ := R.lst hx e
      exact .inl ⟨ys, SqL.of z, by rw [P.isEmpty r]; exact (Option.some.inj h).symm⟩
    · rename_i p xs e
      obtain ⟨a, ys, rfl, _, r, z⟩ := R.fro hx e
      exact .inl ⟨ys, .inl z, by rw [P.isEmpty r]; exact (Option.some.inj h).symm⟩
    · rename_i p xs e
      obtain ⟨a, ys, rfl, _, r, z⟩ := R.tup hx e
      exact .inr (.inl ⟨ys, SqT.of z, by rw [P.isEmpty r]; exact (Option.some.inj h).symm⟩)
    · rename_i p xs e
      obtain ⟨a, ys, rfl, _, r, z⟩ := R.dK hx e
      exact .inr (.inr ⟨ys, z, by rw [P.isEmpty r]; exact (Option.some.inj h).symm⟩)
    · cases h
  · cases h

/-! ### data -/
theorem mapM_all {f : V → Option PyData} {K : PySem.W.Frag} {H : Hp} {as : List Addr} (hf : ∀ v d w, f v = some d → VR as v w → Dp K H w d) : ∀ {xs ys : List V} {ds : List PyData}, xs.mapM f = some ds → VRs as xs ys → DpAll K H ys ds
  | [], _, ds, h, .nil => by
    have : ds = [] := by simpa using h.symm
    subst this
    exact .nil
  | x :: xs, _, ds, h, .cons r rs => by
    rw [List.mapM_cons] at h
    cases e : f x with
    | none => rw [e] at h; cases h
    | some d =>
      rw [e] at h
      cases e2 : xs.mapM f with
      | none => rw [e2] at h; cases h
      | some ds' =>
        rw [e2] at h
        have : d :: ds' = ds := by simpa using h
        subst this
        exact .cons (hf x d _ e r) (mapM_all hf e2 rs)
theorem toD_ok (R : Rel cls as st H) : ∀ (n : Nat) (v : V) (d : PyData) (w : V), toD n st v = some d → VR as v w → Dp K H w d
  | n, .non, d, w, h, r => by
    cases r
    have : PyData.none = d := by cases n <;> exact Option.some.inj h
    subst this
    exact .non
  | n, .bl b, d, w, h, r => by
    cases r
    have : PyData.bool b = d := by cases n <;> exact Option.some.inj h
    subst this
    exact .bl b
  | n, .int b, d, w, h, r => by
    cases r
    have : PyData.int b = d := by cases n <;> exact Option.some.inj h
    subst this
    exact .int b
  | n, .str b, d, w, h, r => by
    cases r
    have : PyData.str b = d := by cases n <;> exact Option.some.inj h
    subst this
    exact .str b
  | 0, .ref p, d, w, h, r => by cases h
  | n + 1, .ref p, d, w, h, r => by
    have h2 : (match st[p]? with
      | some (.lst xs) => (xs.mapM (toD n st)).map .list
      | some (.fro xs) => (xs.mapM (toD n st)).map .list
      | some (.tup xs) => (xs.mapM (toD n st)).map .tuple
      | _ => none) = some d := h
    split at h2
    · rename_i xs e
      obtain ⟨a, ys, rfl, _, r1, z⟩ := R.lst r e
      cases e2 : xs.mapM (toD n st) with
      | none => rw [e2] at h2; cases h2
      | some ds =>
        rw [e2] at h2
        have : PyData.list ds = d := Option.some.inj h2
        subst this
        exact .lst (SqL.of z) (mapM_all (fun v d w => toD_ok R n v d w) e2 r1)
    · rename_i xs e
      obtain ⟨a, ys, rfl, _, r1, z⟩ := R.fro r e
      cases e2 : xs.mapM (toD n st) with
      | none => rw [e2] at h2; cases h2
      | some ds =>
        rw [e2] at h2
        have : PyData.list ds = d := Option.some.inj h2
        subst this
        exact .lst (.inl z) (mapM_all (fun v d w => toD_ok R n v d w) e2 r1)
    · rename_i xs e
      obtain ⟨a, ys, rfl, _, r1, z⟩ := R.tup r e
      cases e2 : xs.mapM (toD n st) with
      | none => rw [e2] at h2; cases h2
      | some ds =>
        rw [e2] at h2
        have : PyData.tuple ds = d := Option.some.inj h2
        subst this
        exact .tup (SqT.of z) (mapM_all (fun v d w => toD_ok R n v d w) e2 r1)
    · cases h2
  | n, .byt b, d, w, h, r => by cases n <;> cases h
  | n, .flt b, d, w, h, r => by cases n <;> cases h
  | n, .ty b, d, w, h, r => by cases n <;> cases h

theorem scal_rel (hx : VR as v x) (hy : VR as u y) (h : scal v u = true) : x = v ∧ y = u := by
  cases v <;> cases u <;> first | (cases h; done) | exact ⟨hx, hy⟩

/-- a comparison for equality -/
theorem eq_ok (hG : ∀ X, G X → GB K mo X) (R : Rel cls as st H) (hx : VR as v x) (hy : VR as u y) {b : Bool} (h : eqD v u st = some b) (q : Q (.bl b) H) : UOp G (compareOp .Eq) x y H Q := by
  unfold eqD at h
  split at h
  · rename_i hs
    obtain ⟨rfl, rfl⟩ := scal_rel hx hy hs
    refine ⟨_, fun _ _ => op_eq, hs, ?_⟩
    rw [Option.some.inj h]
    exact q
  · split at h
    · rename_i d e h1 h2
      split at h
      · rename_i hs
        obtain ⟨s1, s2⟩ := Bool.and_eq_true_iff.mp hs
        refine ⟨rEqD K, fun X hX => ?_, d, e, toD_ok R _ _ _ _ h1 hx, toD_ok R _ _ _ _ h2 hy, s1, s2, ?_⟩
        · rw [← (hG X hX).k]
          exact op_eqD (hG X hX).units
        · rw [Option.some.inj h]
          exact q
      · cases h
    · cases h
theorem ne_ok (hG : ∀ X, G X → GB K mo X) (R : Rel cls as st H) (hx : VR as v x) (hy : VR as u y) {b : Bool} (h : eqD v u st = some b) (q : Q (.bl (!b)) H) : UOp G (compareOp .NotEq) x y H Q := by
  unfold eqD at h
  split at h
  · rename_i hs
    obtain ⟨rfl, rfl⟩ := scal_rel hx hy hs
    refine ⟨_, fun _ _ => op_ne, hs, ?_⟩
    rw [Option.some.inj h]
    exact q
  · split at h
    · rename_i d e h1 h2
      split at h
      · rename_i hs
        obtain ⟨s1, s2⟩ := Bool.and_eq_true_iff.mp hs
        refine ⟨rNeD K, fun X hX => ?_, d, e, toD_ok R _ _ _ _ h1 hx, toD_ok R _ _ _ _ h2 hy, s1, s2, ?_⟩
        · rw [← (hG X hX).k]
          exact op_neD (hG X hX).units
        · rw [Option.some.inj h]
          exact q
      · cases h
    · cases h
theorem inV_rel (hx : VR as v x) (f : flatV v = true) : ∀ {xs ys : List V}, VRs as xs ys → xs.all flatV = true → x = v ∧ ys = xs := by
  intro xs ys r h
  constructor
  · cases v <;> first | exact hx | cases f
  · refine VRs.same r ?_
    rw [List.all_eq_true] at h ⊢
    intro z hz
    have := h z hz
    cases z <;> first | rfl | cases this
theorem valV_rel {κ : Type} [DecidableEq κ] {k : κ} : ∀ {kvs kws : List (κ × V)}, KRs as kvs kws → (∀ v, valV kvs k = some v → ∃ w, valV kws k = some w ∧ VR as v w) ∧ (valV kvs k = none → valV kws k = none)
  | _, _, .nil => ⟨fun v h => (nomatch h), fun _ => rfl⟩
  | _, _, .cons (a := a) (b := b) f r => by
    obtain ⟨f1, f2⟩ := f
    by_cases e : a.1 = k
    · have e' : b.1 = k := f1.symm.trans e
      rw [valV_pos e, valV_pos e']
      exact ⟨fun v h => ⟨b.2, rfl, by rw [← Option.some.inj h]; exact f2⟩, fun h => nomatch h⟩
    · have e' : ¬ b.1 = k := fun z => e (f1.trans z)
      rw [valV_neg e, valV_neg e']
      exact valV_rel r

theorem op_inK {X : Cx} (hu : X.A.units + 1 < cLine) : OpR X (compareOp .In) (fun x y H Q => ∃ a ov, y = .ref a ∧ DGet H a x ov ∧ Q (.bl ov.isSome) H) := fun pins s σ H x y v u Q I rx ry ⟨a, ov, ey, g, q⟩ => by
  subst ey
  obtain rfl : u = Value.ref a := ry
  exact d_in hu I g rx fun s3 I3 => ⟨.bl ov.isSome, H, I3, rfl, q⟩
theorem op_notInK {X : Cx} (hu : X.A.units + 1 < cLine) : OpR X (compareOp .NotIn) (fun x y H Q => ∃ a ov, y = .ref a ∧ DGet H a x ov ∧ Q (.bl (!ov.isSome)) H) := fun pins s σ H x y v u Q I rx ry ⟨a, ov, ey, g, q⟩ => by
  subst ey
  obtain rfl : u = Value.ref a := ry
  exact d_notIn hu I g rx fun s3 I3 => ⟨.bl (!ov.isSome), H, I3, rfl, q⟩
/-- in -/
theorem in_ok (hG : ∀ X, G X → GB K mo X) (R : Rel cls as st H) (hx : VR as v x) (hy : VR as u y) {b : Bool} (h : inD v u st = some b) (q : Q (.bl b) H) : UOp G (compareOp .In) x y H Q := by
  unfold inD at h
  split at h
  · cases hy
    split at h
    · cases hx
      refine ⟨_, fun _ _ => op_in_str, _, _, rfl, rfl, ?_⟩
      rw [Option.some.inj h]
      exact q
    · cases h
  · split at h
    · rename_i xs e
      split at h
      · rename_i hf
        obtain ⟨f1, f2⟩ := Bool.and_eq_true_iff.mp hf
        obtain ⟨a, ys, rfl, r, z⟩ := R.items (K := K) hy e
        obtain ⟨rfl, rfl⟩ := inV_rel hx f1 r f2
        refine ⟨rIn K false, fun X hX => ?_, a, _, rfl, z, f1, f2, ?_⟩
        · rw [← (hG X hX).k]
          exact op_in_seq
        · have e2 : inV x ys = b := Option.some.inj h
          rw [e2]
          exact q
      · cases h
    · split at h
      · split at h
        · rename_i p kvs e
          obtain ⟨a, kws, rfl, _, r, z⟩ := R.dK hy e
          split at h
          · rename_i k
            cases hx
            refine ⟨_, fun X hX => op_inK (by have := (hG X hX).units; omega), a, _, rfl, DGet.k (k := Sum.inr k) z, ?_⟩
            have e2 : (valV kws (Sum.inr k : Key)).isSome = b := by
              rw [← Option.some.inj h]
              cases e3 : valV kvs (Sum.inr k : Key) with
              | none => rw [(valV_rel r).2 e3]
              | some v =>
                obtain ⟨w, q1, _⟩ := (valV_rel r).1 v e3
                rw [q1]
                rfl
            rw [e2]
            exact q
          · rename_i k
            cases hx
            refine ⟨_, fun X hX => op_inK (by have := (hG X hX).units; omega), a, _, rfl, DGet.k (k := Sum.inl k) z, ?_⟩
            have e2 : (valV kws (Sum.inl k : Key)).isSome = b := by
              rw [← Option.some.inj h]
              cases e3 : valV kvs (Sum.inl k : Key) with
              | none => rw [(valV_rel r).2 e3]
              | some v =>
                obtain ⟨w, q1, _⟩ := (valV_rel r).1 v e3
                rw [q1]
                rfl
            rw [e2]
            exact q
          · cases h
        · cases h
      · cases h
/-- not in -/
theorem notin_ok (hG : ∀ X, G X → GB K mo X) (R : Rel cls as st H) (hx : VR as v x) (hy : VR as u y) {b : Bool} (h : inD v u st = some b) (q : Q (.bl (!b)) H) : UOp G (compareOp .NotIn) x y H Q := by
  unfold inD at h
  split at h
  · cases hy
    split at h
    · cases hx
      refine ⟨_, fun _ _ => op_notin_str, _, _, rfl, rfl, ?_⟩
      rw [Option.some.inj h]
      exact q
    · cases h
  · split at h
    · rename_i xs e
      split at h
      · rename_i hf
        obtain ⟨f1, f2⟩ := Bool.and_eq_true_iff.mp hf
        obtain ⟨a, ys, rfl, r, z⟩ := R.items (K := K) hy e
        obtain ⟨rfl, rfl⟩ := inV_rel hx f1 r f2
        refine ⟨rIn K true, fun X hX => ?_, a, _, rfl, z, f1, f2, ?_⟩
        · rw [← (hG X hX).k]
          exact op_notIn_seq
        · have e2 : inV x ys = b := Option.some.inj h
          rw [e2]
          exact q
      · cases h
    · split at h
      · split at h
        · rename_i p kvs e
          obtain ⟨a, kws, rfl, _, r, z⟩ := R.dK hy e
          split at h
          · rename_i k
            cases hx
            refine ⟨_, fun X hX => op_notInK (by have := (hG X hX).units; omega), a, _, rfl, DGet.k (k := Sum.inr k) z, ?_⟩
            have e2 : (valV kws (Sum.inr k : Key)).isSome = b := by
              rw [← Option.some.inj h]
              cases e3 : valV kvs (Sum.inr k : Key) with
              | none => rw [(valV_rel r).2 e3]
              | some v =>
                obtain ⟨w, q1, _⟩ := (valV_rel r).1 v e3
                rw [q1]
                rfl
            rw [e2]
            exact q
          · rename_i k
            cases hx
            refine ⟨_, fun X hX => op_notInK (by have := (hG X hX).units; omega), a, _, rfl, DGet.k (k := Sum.inl k) z, ?_⟩
            have e2 : (valV kws (Sum.inl k : Key)).isSome = b := by
              rw [← Option.some.inj h]
              cases e3 : valV kvs (Sum.inl k : Key) with
              | none => rw [(valV_rel r).2 e3]
              | some v =>
                obtain ⟨w, q1, _⟩ := (valV_rel r).1 v e3
                rw [q1]
                rfl
            rw [e2]
            exact q
          · cases h
        · cases h
      · cases h

theorem cmp_ok (hG : ∀ X, G X → GB K mo X) {op : CmpOp} (R : Rel cls as st H) (hx : VR as v x) (hy : VR as u y) (hP : PV cls as (cmpD op v u st) Q X) : UOp G (compareOp op) x y H Q := by
  unfold cmpD at hP
  split at hP
  · cases e : eqD v u st with
    | none => rw [e] at hP; exact hP.elim
    | some b =>
      rw [e] at hP
      exact eq_ok hG R hx hy e (hP.got R rfl)
  · cases e : eqD v u st with
    | none => rw [e] at hP; exact hP.elim
    | some b =>
      rw [e] at hP
      exact ne_ok hG R hx hy e (PV.got (v := .bl (!b)) hP R rfl)
  · cases e : inD v u st with
    | none => rw [e] at hP; exact hP.elim
    | some b =>
      rw [e] at hP
      exact in_ok hG R hx hy e (hP.got R rfl)
  · cases e : inD v u st with
    | none => rw [e] at hP; exact hP.elim
    | some b =>
      rw [e] at hP
      exact notin_ok hG R hx hy e (PV.got (v := .bl (!b)) hP R rfl)
  · split at hP
    · cases hx; cases hy
      exact ⟨_, fun _ _ => op_lt, _, _, rfl, rfl, hP.got R rfl⟩
    · exact hP.elim
  · split at hP
    · cases hx; cases hy
      exact ⟨_, fun _ _ => op_le, _, _, rfl, rfl, hP.got R rfl⟩
    · exact hP.elim
  · split at hP
    · cases hx; cases hy
      exact ⟨_, fun _ _ => op_gt, _, _, rfl, rfl, hP.got R rfl⟩
    · exact hP.elim
  · split at hP
    · cases hx; cases hy
      exact ⟨_, fun _ _ => op_ge, _, _, rfl, rfl, hP.got R rfl⟩
    · exact hP.elim
  · split at hP
    · cases hy
      have e : decide (x = V.non) = decide (v = V.non) := by
        cases v with
        | ref i =>
          obtain ⟨a, _, rfl⟩ := hx
          rfl
        | _ => rw [show x = _ from hx]
      refine ⟨_, fun _ _ => op_isN, rfl, ?_⟩
      rw [e]
      exact hP.got R rfl
    · exact hP.elim
  · split at hP
    · cases hy
      have e : decide (x = V.non) = decide (v = V.non) := by
        cases v with
        | ref i =>
          obtain ⟨a, _, rfl⟩ := hx
          rfl
        | _ => rw [show x = _ from hx]
      refine ⟨_, fun _ _ => op_notN, rfl, ?_⟩
      rw [e]
      exact PV.got (v := .bl (!decide (v = V.non))) hP R rfl
    · exact hP.elim

/-! ### subscripts, slices -/
theorem ix_dict {X : Cx} (hu : X.A.units + 1 < cLine) : IxR X (fun x y H Q => ∃ a v, x = .ref a ∧ DGet H a y (some v) ∧ Q v H) := fun va sl pins s σ H x y v u Q I rx ry ⟨a, z, ex, g, q⟩ hs => by
  subst ex
  obtain rfl : v = Value.ref a := rx
  exact tail_any (dict_typeIs I g) PySem.F.slot_dict_getitem.lookup (d_getItem hu I g ry fun w' s3 I3 rw' => ⟨z, H, I3, rw', q⟩) hs
theorem atI_rel {α β : Type} {F : α → β → Prop} {xs : List α} {ys : List β} (r : Paired F xs ys) {i : Int} {v : α} (h : atI xs i = some v) : ∃ w, atI ys i = some w ∧ F v w := by
  unfold atI at h ⊢
  rw [← P.length r]
  cases e : ixN xs.length i with
  | none => rw [e] at h; cases h
  | some j =>
    rw [e] at h
    exact P.get r h
theorem idx_ok (hG : ∀ X, G X → GB K mo X) (R : Rel cls as st H) (hx : VR as v x) (hy : VR as u y) (hP : PV cls as (idxD v u st) Q X) : UIx G x y H Q := by
  unfold idxD at hP
  split at hP
  · cases hy
    split at hP
    · cases hx
      split at hP
      · rename_i hl
        split at hP
        · rename_i c e
          exact ⟨_, fun _ _ => ix_str, _, _, c, rfl, rfl, by rw [← sz_eq]; exact hl, e, hP.got R rfl⟩
        · exact hP.elim
      · exact hP.elim
    · split at hP
      · rename_i xs e
        obtain ⟨a, ys, rfl, r, z⟩ := R.items (K := K) hx e
        split at hP
        · rename_i v e2
          obtain ⟨w, q1, q2⟩ := atI_rel r e2
          rcases z with z | z
          · refine ⟨rIxL K, fun X hX => ?_, a, ys, _, w, rfl, rfl, z, q1, hP.got R q2⟩
            rw [← (hG X hX).k]
            exact ix_list
          · refine ⟨rIxT K, fun X hX => ?_, a, ys, _, w, rfl, rfl, z, q1, hP.got R q2⟩
            rw [← (hG X hX).k]
            exact ix_tup
        · exact hP.elim
      · exact hP.elim
  · cases hy
    split at hP
    · split at hP
      · rename_i p kvs e
        obtain ⟨a, kws, rfl, _, r, z⟩ := R.dK hx e
        split at hP
        · rename_i v e2
          obtain ⟨w, q1, q2⟩ := (valV_rel r).1 v e2
          refine ⟨_, fun X hX => ix_dict (by have := (hG X hX).units; omega), a, w, rfl, ?_, hP.got R q2⟩
          rw [← q1]
          exact DGet.k (k := Sum.inr _) z
        · exact hP.elim
      · exact hP.elim
    · exact hP.elim
  · exact hP.elim
theorem cutV_rel {xs ys : List V} (r : VRs as xs ys) (lo hi : Option Int) : VRs as (cutV xs lo hi) (cutV ys lo hi) := by
  unfold cutV
  rw [P.length r]
  exact P.take _ (P.drop _ r)
theorem slc_ok (hG : ∀ X, G X → GB K mo X) {lo hi : Option Int} (R : Rel cls as st H) (hx : VR as v x) (hP : PV cls as (slcD v lo hi st) Q X) : USl G x lo hi H Q := by
  unfold slcD at hP
  split at hP
  · cases hx
    split at hP
    · rename_i hl
      exact ⟨_, fun _ _ => sl_str, _, rfl, by rw [← sz_eq]; exact hl, hP.got R rfl⟩
    · exact hP.elim
  · split at hP
    · rename_i p xs e
      obtain ⟨a, ys, rfl, _, r, z⟩ := R.lst hx e
      refine ⟨rSlL K, fun X hX => ?_, a, ys, rfl, SqL.of z, fun p hp => hP.newL R (cutV_rel r lo hi) hp⟩
      rw [← (hG X hX).k]
      exact sl_list
    · rename_i p xs e
      obtain ⟨a, ys, rfl, _, r, z⟩ := R.fro hx e
      refine ⟨rSlL K, fun X hX => ?_, a, ys, rfl, .inl z, fun p hp => hP.newL R (cutV_rel r lo hi) hp⟩
      rw [← (hG X hX).k]
      exact sl_list
    · exact hP.elim
  · exact hP.elim

/-! ### built-ins -/
def biV : Bi → Value
  | .len => .builtin "len"
  | .list => .type "list"
  | .any => .builtin "any"
  | .all => .builtin "all"
  | .str => .type "str"
  | .int => .type "int"
  | .abs => .builtin "abs"
  | .sum => .builtin "sum"
  | .tuple => .type "tuple"
  | .reversed => .type "reversed"
def biN : Bi → Str
  | .len => "len"
  | .list => "list"
  | .any => "any"
  | .all => "all"
  | .str => "str"
  | .int => "int"
  | .abs => "abs"
  | .sum => "sum"
  | .tuple => "tuple"
  | .reversed => "reversed"
theorem allB_of : ∀ {xs : List V} {bs : List Bool}, allB xs = some bs → xs = bs.map V.bl
  | [], bs, h => by
    have : bs = [] := (Option.some.inj h).symm
    rw [this]
    rfl
  | .bl b :: r, bs, h => by
    have h2 : (allB r).map (b :: ·) = some bs := h
    cases e : allB r with
    | none => rw [e] at h2; cases h2
    | some cs =>
      rw [e] at h2
      have : b :: cs = bs := Option.some.inj h2
      rw [← this, allB_of e]
      rfl
  | .non :: r, bs, h => by cases h
  | .int _ :: r, bs, h => by cases h
  | .str _ :: r, bs, h => by cases h
  | .byt _ :: r, bs, h => by cases h
  | .flt _ :: r, bs, h => by cases h
  | .ref _ :: r, bs, h => by cases h
  | .ty _ :: r, bs, h => by cases h
theorem bls_same {bs : List Bool} {ys : List V} (r : VRs as (bs.map V.bl) ys) : ys = bs.map V.bl := VRs.same r (by
  rw [List.all_eq_true]
  intro z hz
  obtain ⟨b, _, rfl⟩ := List.mem_map.mp hz
  rfl)
theorem vrs1 {ws : List V} (r : VRs as [v] ws) : ∃ w, ws = [w] ∧ VR as v w := by
  cases r with
  | cons f r =>
    cases r
    exact ⟨_, rfl, f⟩
theorem KRs.keys {as : List Addr} : ∀ {kvs kws : List (Key × V)}, KRs as kvs kws → (kvs.map fun kv => kV kv.1) = kws.map fun kv => kV kv.1
  | _, _, .nil => rfl
  | _, _, .cons f r => by rw [List.map_cons, List.map_cons, f.1, KRs.keys r]
theorem VRs.kV {as : List Addr} : ∀ kvs : List (Key × V), VRs as (kvs.map fun kv => L2.kV kv.1) (kvs.map fun kv => L2.kV kv.1)
  | [] => .nil
  | (.inl _, _) :: r => .cons rfl (VRs.kV r)
  | (.inr _, _) :: r => .cons rfl (VRs.kV r)
theorem allS_of : ∀ {xs : List V} {bs : List Str}, allS xs = some bs → xs = bs.map V.str
  | [], bs, h => by
    have : bs = [] := (Option.some.inj h).symm
    rw [this]
    rfl
  | .str b :: r, bs, h => by
    have h2 : (allS r).map (b :: ·) = some bs := h
    cases e : allS r with
    | none => rw [e] at h2; cases h2
    | some cs =>
      rw [e] at h2
      have : b :: cs = bs := Option.some.inj h2
      rw [← this, allS_of e]
      rfl
  | .non :: r, bs, h => by cases h
  | .int _ :: r, bs, h => by cases h
  | .bl _ :: r, bs, h => by cases h
  | .byt _ :: r, bs, h => by cases h
  | .flt _ :: r, bs, h => by cases h
  | .ref _ :: r, bs, h => by cases h
  | .ty _ :: r, bs, h => by cases h
theorem strs_same {bs : List Str} {ys : List V} (r : VRs as (bs.map V.str) ys) : ys = bs.map V.str := VRs.same r (by
  rw [List.all_eq_true]
  intro z hz
  obtain ⟨b, _, rfl⟩ := List.mem_map.mp hz
  rfl)
theorem strs_rel {as : List Addr} : ∀ bs : List Str, VRs as (bs.map V.str) (bs.map V.str)
  | [] => .nil
  | _ :: r => .cons rfl (strs_rel r)
theorem lstOf_some {xs : List V} (h : lstOf st v = some xs) : ∃ p, v = .ref p ∧ st[p]? = some (.lst xs) := by
  unfold lstOf at h
  split at h
  · split at h
    · rename_i e
      cases h
      exact ⟨_, rfl, e⟩
    · cases h
  · cases h
theorem Rel.lstOf (R : Rel cls as st H) (h : VR as v w) {xs : List V} (e : lstOf st v = some xs) : ∃ a ys, w = .ref a ∧ VRs as xs ys ∧ H a = some (.lst ys) := by
  obtain ⟨p, rfl, e2⟩ := lstOf_some e
  obtain ⟨a, ys, r1, _, r2, r3⟩ := R.lst h e2
  exact ⟨a, ys, r1, r2, r3⟩
/-- a list of texts -/
theorem Rel.strs (R : Rel cls as st H) (h : VR as v w) {xs : List V} {bs : List Str} (e : Mi.lstOf st v = some xs) (e2 : allS xs = some bs) : ∃ a, w = .ref a ∧ H a = some (.lst (bs.map V.str)) := by
  obtain ⟨a, ys, rfl, r, z⟩ := R.lstOf h e
  rw [allS_of e2] at r
  rw [strs_same r] at z
  exact ⟨a, rfl, z⟩
theorem bif_ok (hG : ∀ X, G X → GB K mo X) {f : Bi} {vs ws : List V} (R : Rel cls as st H) (hx : VRs as vs ws) (hP : PV cls as (bifD mo f vs st) Q X) : UC G (biV f) ws H Q := by
  unfold bifD at hP
  split at hP
  · obtain ⟨w, rfl, r⟩ := vrs1 hx
    cases r
    split at hP
    · rename_i hl
      exact ⟨_, fun _ _ => call_len_str, _, rfl, by rw [← sz_eq]; exact hl, hP.got R rfl⟩
    · exact hP.elim
  · obtain ⟨w, rfl, r⟩ := vrs1 hx
    have key : ∀ {xs : List V}, items st (.ref _) = some xs → PV cls as (one (.int xs.length) st) Q X → UC G (biV .len) [w] H Q := fun {xs} e hP => by
      obtain ⟨a, ys, rfl, r, z⟩ := R.items (K := K) r e
      refine ⟨fun xs H Q => ∃ p ys, xs = [.ref p] ∧ (SqL K H p ys ∨ SqT K H p ys) ∧ Q (.int ys.length) H, fun X hX => ?_, a, ys, rfl, z, ?_⟩
      · rw [← (hG X hX).k]
        exact call_len_seq
      · rw [← P.length r]
        exact hP.got R rfl
    split at hP
    · rename_i e
      exact key (by simp only [items, e]) hP
    · rename_i e
      exact key (by simp only [items, e]) hP
    · rename_i e
      exact key (by simp only [items, e]) hP
    · exact hP.elim
  · obtain ⟨w, rfl, r⟩ := vrs1 hx
    have key : ∀ {xs : List V}, items st (.ref _) = some xs → PV cls as (new (.lst xs) st) Q X → UC G (biV .list) [w] H Q := fun {xs} e hP => by
      obtain ⟨a, ys, rfl, r, z⟩ := R.items (K := K) r e
      refine ⟨fun xs H Q => ∃ p ys, xs = [.ref p] ∧ (SqL K H p ys ∨ SqT K H p ys) ∧ ∀ l, H l = none → Q (.ref l) (upd H l (.lst ys)), fun X hX => ?_, a, ys, rfl, z, fun l hl => hP.newL R r hl⟩
      rw [← (hG X hX).k]
      exact call_list_of
    split at hP
    · rename_i e
      exact key (by simp only [items, e]) hP
    · rename_i e
      exact key (by simp only [items, e]) hP
    · rename_i e
      exact key (by simp only [items, e]) hP
    · rename_i kvs e
      obtain ⟨a, kws, rfl, _, r2, z⟩ := R.dK r e
      split at hP
      · rename_i hmo
        refine ⟨_, fun X hX => call_listD ((hG X hX).calm hmo), a, kws, rfl, .inl z, fun p hp => ?_⟩
        have hk : (kws.map fun kv => kV kv.1) = kvs.map fun kv => kV kv.1 := (KRs.keys r2).symm
        rw [hk]
        exact hP.newL R (VRs.kV kvs) hp
      · exact hP.elim
    · exact hP.elim
  · obtain ⟨w, rfl, r⟩ := vrs1 hx
    split at hP
    · rename_i hq
      split at hP
      · rename_i xs e
        split at hP
        · rename_i bs eb
          obtain ⟨a, ys, rfl, _, r, z⟩ := R.lst r e
          rw [allB_of eb] at r
          rw [bls_same r] at z
          refine ⟨rAny K, fun X hX => ?_, a, bs, rfl, SqL.of z, hP.got R rfl⟩
          rw [← (hG X hX).k]
          exact cr_anyU ((hG X hX).q hq)
        · exact hP.elim
      · exact hP.elim
    · exact hP.elim
  · obtain ⟨w, rfl, r⟩ := vrs1 hx
    split at hP
    · rename_i hq
      split at hP
      · rename_i xs e
        split at hP
        · rename_i bs eb
          obtain ⟨a, ys, rfl, _, r, z⟩ := R.lst r e
          rw [allB_of eb] at r
          rw [bls_same r] at z
          refine ⟨rAll K, fun X hX => ?_, a, bs, rfl, SqL.of z, hP.got R rfl⟩
          rw [← (hG X hX).k]
          exact cr_allU ((hG X hX).q hq)
        · exact hP.elim
      · exact hP.elim
    · exact hP.elim
  · obtain ⟨w, rfl, r⟩ := vrs1 hx
    cases r
    split at hP
    · rename_i hl
      exact ⟨_, fun _ _ => call_str_int, _, rfl, hl, hP.got R rfl⟩
    · exact hP.elim
  · obtain ⟨w, rfl, r⟩ := vrs1 hx
    cases r
    exact ⟨_, fun _ _ => call_abs, _, rfl, hP.got R rfl⟩
  · exact hP.elim
end
end Mi
set_option maxHeartbeats 2000000
/-! Mi: contexts, the written text, what the text's trees look like. -/
namespace Mi
open PySem PySem.Spec PyProof.Rows L2 L2H

/-! ### the model's trees, for any text of the plain kind -/
def isStar : Expr → Bool
  | .Starred _ _ => true
  | _ => false
theorem star_cons {e : Expr} {es : List Expr} {env : Env} (h : isStar e = false) : starEach (e :: es) env = (false, eval e env) :: starEach es env := by
  cases e <;> first | rfl | cases h
def noStar (es : List Expr) : Bool := es.all fun e => !isStar e
theorem noStar_cons {e : Expr} {es : List Expr} (h : noStar (e :: es) = true) : isStar e = false ∧ noStar es = true := by
  have h2 := Bool.and_eq_true_iff.mp (show (!isStar e && noStar es) = true from h)
  exact ⟨by simpa using h2.1, h2.2⟩
theorem backTo_any {pos : Pos} {env : Env} : ∀ {es : List Expr}, noStar es = true → (backTo pos (starEach es env)).any (·.1) = false
  | [], _ => rfl
  | e :: es, h => by
    obtain ⟨h1, h2⟩ := noStar_cons h
    rw [star_cons h1]
    show (false || (backTo pos (starEach es env)).any (·.1)) = false
    rw [backTo_any h2]
    rfl
theorem backTo_all {pos : Pos} {env : Env} : ∀ {es : List Expr}, noStar es = true → (backTo pos (starEach es env)).all (fun x => !x.1) = true
  | [], _ => rfl
  | e :: es, h => by
    obtain ⟨h1, h2⟩ := noStar_cons h
    rw [star_cons h1]
    show (true && (backTo pos (starEach es env)).all (fun x => !x.1)) = true
    rw [backTo_all h2]
    rfl
/-- what an attribute stands on: anything but a call without arguments -/
def plainBase : Expr → Bool
  | .Call (.Name _ _) [] [] _ => false
  | _ => true
theorem base_ok {o : Expr} {m : Str} {env : Env} {w : Sem Value} (h : plainBase o = true) : attributeBase o m env w = w := by
  unfold attributeBase
  split
  · cases h
  · rfl
theorem meth_tree {o : Expr} {m : Str} {apos pos : Pos} {es : List Expr} {env : Env} (hb : plainBase o = true) (hs : noStar es = true) (hl : (apos.endLine == pos.line) = true) (hn : es.length < 30) :
    eval (.Call (.Attribute o m apos) es [] pos) env = (do
      let ov ← eval o env
      standAt apos.atName
      let (f, first) ← holding [ov] (getMethod ov m (plainOf o env))
      callWith pos f first (backTo pos (starEach es env)) (backToKw pos (keywordEach [] env))) := by
  have e : eval (.Call (.Attribute o m apos) es [] pos) env = (do
      let ov ← attributeBase o m env (eval o env)
      standAt apos.atName
      methodCall o m apos pos env ov (es.length + ([] : List Keyword).length) (backTo pos (starEach es env)) (backToKw pos (keywordEach [] env))) := rfl
  rw [e, base_ok hb]
  have hf : methodCallForm (es.length + ([] : List Keyword).length) (backTo pos (starEach es env)) (backToKw pos (keywordEach [] env)) = true := by
    have h1 := backTo_all (pos := pos) (env := env) hs
    show ((backTo pos (starEach es env)).all (fun x => !x.1) && true && decide (es.length + 0 + 0 < 30)) = true
    rw [h1]
    simpa using hn
  simp only [mcall_line hf hl]

/-- f(..): the tree of a call -/
theorem callWith_es {X : Cx} {f : Value} {es : List Expr} {ta : TA} {first : List Value} {pos : Pos} {pins : List (Addr × Obj)} {s : Shared} {σ : L2.St} {H : Hp} {R : List V → Hp → Prop} {Q : Value → Shared → Prop} (hs : noStar es = true) (hk : PySem.W.keepIn X.K f = true) (ha : PA X es ta) (I : Inv X pins σ H s)
    (h : ta σ H R) (k : ∀ vs H1 us s1, R vs H1 → Inv X pins σ H1 s1 → Vals vs us → wpAny (model X.prog X.w) X.A (call f (first ++ us)) Q X.xe s1) :
    wpAny (model X.prog X.w) X.A (callWith pos f first (backTo pos (starEach es X.env)) (backToKw pos (keywordEach [] X.env))) Q X.xe s := by
  cases es with
  | nil =>
    have h0 := ha.run pos pins s σ H _ I h
    intro Γ p hΓ
    have h1 : AP X pins σ R [] s := h0 Γ p hΓ
    obtain ⟨vs, H1, I1, r, q⟩ := h1
    exact PySem.W.callWith_K0 I.kIn hk (k vs H1 [] s q I1 r) Γ p hΓ
  | cons e es =>
    obtain ⟨h1, h2⟩ := noStar_cons hs
    exact PySem.W.callWith_K (h₀ := X.base) I.ok.mod.kin hk (thn (ha.run pos pins s σ H _ I h) fun us s1 ⟨vs, H1, I1, r, q⟩ => ⟨I1.kIn, k vs H1 us s1 q I1 r⟩) (star_cons h1) (backTo_any h2)

/-! ### the table stands behind the text -/
abbrev exX (xi : Nat → Addr → Value → Option Addr → Prop) : XI := fun a cv d => ∃ i, xi i a cv d
/-- a class that an except, an isinstance names -/
def clsV (cls : Cz) (k : Str) : Value := if k = "ValueError" then .type "ValueError" else .ref (cls k)
section
variable (P : Program) (w : World) (K : PySem.W.Frag) (mg : Str → Option Value) (base : Heap) (cls : Cz)
/-- a def's promise: what the table's run of it gives -/
def spI (cf : Str → List V → Store → R) (f : Str) (n : Nat) : Sp := fun vs H Q E => ∃ as st xs, xs.length = n ∧ Rel cls as st H ∧ VRs as xs vs ∧ PV cls as (cf f xs st) Q E
/-- a def of the table, at a -/
structure FnT (cf : Bool → Str → List V → Store → R) (lv : Nat) (f : Str) (F : Fn) (a : Addr) : Prop where
  ex : ∃ fd, (∀ h xi, FnU cls.bad (exX xi) h P w K mg base (Out cls.bad P w) lv a fd F.ps (spI (cls.x xi) (cf h) f F.ps.length)) ∧ ∀ n, n ≤ F.ps.length → F.ps.length ≤ n + F.dfl.length → ∃ ds, Vals (F.dfl.drop (n + F.dfl.length - F.ps.length)) ds ∧ Binds K fd F.ps ds
  dfl : F.dfl.all (fun v => !isRef v) = true
  kp : PySem.W.keepIn K (.ref a) = true
abbrev veMro : List Value := [.type "ValueError", .type "Exception", .type "BaseException", .type "object"]
/-- an own exception's class that is raised -/
structure ExK (lv : Nat) (c : Str) (k : Option Str) : Prop where
  gl : mg c = some (.ref (cls c))
  kC : PySem.W.keepIn K (.ref (cls c)) = true
  exC : PySem.W.subIn K (.ref (cls c)) (.type "BaseException") = some true
  tyC : PySem.W.typeIn K (.ref (cls c)) = some (.type "type")
  ini : match k with
    | none => PySem.W.excIn K (cls c) veMro "ValueError.__new__" = true
    | some f => OexC K (cls c) ∧ PySem.W.findIn K (.ref (cls c)) f = some none ∧ ∃ aI fd ps, PySem.W.findIn K (.ref (cls c)) "__init__" = some (some (.ref aI)) ∧ PySem.W.typeIn K (.ref aI) = some (.type "function") ∧ Binds K fd ps [] ∧
        ∀ h xi, FnU cls.bad xi h P w K mg base (Out cls.bad P w) lv aI fd ps (spInit K f)
/-- an own exception's class asked whether it is under a class -/
structure ExS (c k : Str) (b : Bool) : Prop where
  em : PySem.W.exmOne K (.ref (cls c)) (clsV cls k) = some b
  kt : PySem.W.kitOne K (.ref (cls c)) (clsV cls k) = some b
  tx : ExcT K (cls c)
  rs : rsK K (.ref (cls c))
/-- a class's function, read off the class -/
structure CmF (C : Addr) (m : Str) (a : Addr) : Prop where
  rd : PySem.W.readsIn K C (.type "type") = true
  ga : PySem.W.specialIn K (.ref C) "__getattribute__" = some (some (.builtin "type.__getattribute__"))
  at_ : PySem.W.findCls K (.ref C) (.type "type") m = some (.val (.ref a))
structure Tab (Pg : Prog) (cf : Bool → Str → List V → Store → R) (lv : Nat) : Prop where
  lv1 : 1 ≤ lv
  glo : ∀ x v, Pg.glo x = some v → isRef v = false ∧ ∃ u, mg x = some u ∧ RelV v u
  fn : ∀ f F, Pg.fn f = some F → F.top = true → ∃ a, mg f = some (.ref a) ∧ FnT P w K mg base cls cf lv f F a
  meth : ∀ c m f, Pg.meth c m = some f → ∃ F a, Pg.fn f = some F ∧ Cls K (cls c) ∧ Meth K (cls c) m a ∧ FnT P w K mg base cls cf lv f F a
  made : ∀ c f, Pg.meth c "__init__" = some f → Pg.made c = true → ∃ F a, Pg.fn f = some F ∧ mg c = some (.ref (cls c)) ∧ Mk K (cls c) a ∧ FnT P w K mg base cls cf lv f F a
  fld : ∀ c f, Pg.fld c f = true → Cls K (cls c) ∧ NoAttr K (cls c) f
  cm : ∀ c m f, Pg.cm c m = some f → ∃ F a, Pg.fn f = some F ∧ mg c = some (.ref (cls c)) ∧ CmF K (cls c) m a ∧ FnT P w K mg base cls cf lv f F a
  exk : ∀ c k, Pg.exk c = some k → ExK P w K mg base cls 1 c k
  sub : ∀ c k b, Pg.sub c k = some b → ExS K cls c k b
  kls : ∀ k, Pg.kls k = true → if k = "ValueError" then mg k = none else mg k = some (.ref (cls k))
  xfld : ∀ c f, Pg.xfld c f = true → ExcT K (cls c) ∧ PySem.W.findIn K (.ref (cls c)) f = some none
  bad : ∀ c k b, Pg.sub c k = some b → cls.bad (.ref (cls c)) = Pg.bad c
  badk : ∀ c k, Pg.exk c = some k → Pg.bad c = true → cls.bad (.ref (cls c)) = true
  set_ : mg "set" = none
  bi : ∀ b, mg (biN b) = none
  isi : mg "isinstance" = none
  rng : mg "range" = none
  enu : mg "enumerate" = none
  ty : ∀ t, Pg.ty t = true → mg t = none
  /-- lacking arguments are the defaults -/
  full : ∀ h f F xs st, Pg.fn f = some F → (xs.length ≤ F.ps.length ∧ F.ps.length ≤ xs.length + F.dfl.length → cf h f xs st = cf h f (xs ++ F.dfl.drop (xs.length + F.dfl.length - F.ps.length)) st) ∧ (¬ (xs.length ≤ F.ps.length ∧ F.ps.length ≤ xs.length + F.dfl.length) → cf h f xs st = .stk)
  none_ : ∀ h f xs st, Pg.fn f = none → cf h f xs st = .stk
theorem Tab.x {P : Program} {w : World} {K : PySem.W.Frag} {mg : Str → Option Value} {base : Heap} {cls : Cz} {Pg : Prog} {cf : Bool → Str → List V → Store → R} {lv : Nat} (T : Tab P w K mg base cls Pg cf lv) (xi : Nat → Addr → Value → Option Addr → Prop) : Tab P w K mg base (cls.x xi) Pg cf lv where
  lv1 := T.lv1
  glo := T.glo
  fn := fun f F h1 h2 => by
    obtain ⟨a, e, A⟩ := T.fn f F h1 h2
    exact ⟨a, e, ⟨A.ex, A.dfl, A.kp⟩⟩
  meth := fun c m f h => by
    obtain ⟨F, a, e1, e2, e3, A⟩ := T.meth c m f h
    exact ⟨F, a, e1, e2, e3, ⟨A.ex, A.dfl, A.kp⟩⟩
  made := fun c f h1 h2 => by
    obtain ⟨F, a, e1, e2, e3, A⟩ := T.made c f h1 h2
    exact ⟨F, a, e1, e2, e3, ⟨A.ex, A.dfl, A.kp⟩⟩
  fld := T.fld
  cm := fun c m f h => by
    obtain ⟨F, a, e1, e2, e3, A⟩ := T.cm c m f h
    exact ⟨F, a, e1, e2, e3, ⟨A.ex, A.dfl, A.kp⟩⟩
  exk := fun c k h => by
    obtain ⟨a1, a2, a3, a4, a5⟩ := T.exk c k h
    exact ⟨a1, a2, a3, a4, a5⟩
  sub := fun c k b h => by
    obtain ⟨a1, a2, a3, a4⟩ := T.sub c k b h
    exact ⟨a1, a2, a3, a4⟩
  kls := T.kls
  xfld := T.xfld
  bad := T.bad
  badk := T.badk
  set_ := T.set_
  bi := T.bi
  isi := T.isi
  rng := T.rng
  enu := T.enu
  ty := T.ty
  full := T.full
  none_ := T.none_
end

/-- where a text stands: its names by slots, its scope, what it may store -/
structure Sc where
  N : List Str
  sc : Scope
  own : List Str
structure GX (P : Program) (w : World) (K : PySem.W.Frag) (mg : Str → Option Value) (base : Heap) (cls : Cz) (lv : Nat) (S : Sc) (mo : Mo) (X : Cx) : Prop where
  prog : X.prog = P
  w : X.w = w
  k : X.K = K
  mg : X.mg = mg
  base : X.base = base
  n : X.N = S.N
  nd : S.N.Nodup
  scope : X.env.scope = S.sc
  kind : S.sc.kind = .function
  calm : mo = .on false → X.calm = true
  hd0 : mo = .on false → X.A.handled = none
  hot : mo = .on true → ∃ p, Hot1 X.A p ∧ p ∈ X.pn ∧ rsK K p.2.cls
  pin : ∀ a cv d, exX cls.xi a cv d → X.A.handled = some (.ref a) ∧ ∃ oe, (a, oe) ∈ X.pn ∧ Zb cls.bad cv d oe ∧ ∃ vs, oe.data = .fields vs
  room : RoomH lv X.A
  own : ∀ x ∈ S.own, Loc X.env.scope x ∧ (X.fn x = true ∨ X.env.scope.names.lookup x = some .local)
  top : ∃ e0 r0, Top X e0 r0
section
variable {P : Program} {w : World} {K : PySem.W.Frag} {mg : Str → Option Value} {base : Heap} {cls : Cz} {S : Sc} {mo : Mo} {X : Cx}
theorem GX.q {lv : Nat} (h : GX P w K mg base cls lv S mo X) (q : mo.q = true) : QX X := by
  match mo, q with
  | .on false, _ => exact .inl (h.calm rfl)
  | .on true, _ => exact .inr (let ⟨p, e1, e2, _⟩ := h.hot rfl; ⟨p, e1, e2⟩)
theorem GX.gb {j : Nat} (h : GX P w K mg base cls (j + 1) S mo X) : GB K mo X := ⟨h.k, h.calm, h.q, h.room.mono (Nat.le_add_left 1 j)⟩
theorem GX.md {lv : Nat} {b : Bool} (h : GX P w K mg base cls lv S (.on b) X) : MdX cls.bad (exX cls.xi) b X where
  calm := fun e => h.hd0 (by rw [e])
  hot := fun e => by
    obtain ⟨p, e1, e2, e3⟩ := h.hot (by rw [e])
    exact ⟨p, e1, e2, by rw [h.k]; exact e3⟩
  pin := h.pin
end
end Mi
set_option maxHeartbeats 2000000
/-! Mi: expressions keep to their runs. -/
namespace Mi
open PySem PySem.Spec PyProof.Rows L2 L2H

section
variable {P : Program} {w : World} {K : PySem.W.Frag} {mg : Str → Option Value} {base : Heap} {cls : Cz} {Pg : Prog} {cf : Bool → Str → List V → Store → R} {lv : Nat} {S : Sc} {mo : Mo} {G : Cx → Prop} {W : WX}
variable {e ea eb ec : Expr} {es : List Expr} {a b c o : Ev → Store → R} {x m : Str} {pos p apos : Pos}

/-- a test out of a value's truth -/
theorem st_truth (hG : ∀ X, G X → GB K mo X) (h : SE cls G W e a) (he : ∀ env whole, isTrue e env whole = (do let v ← whole; standAt e.pos; holding [v] (truthy v))) : ST cls G W e a := by
  intro env st as σ H Q h0 S hP
  refine ⟨fun σ H Q => UE G e σ H fun x H' => ∃ k, TruV K x H' k ∧ Q k H', fun X hX => ?_, ?_⟩
  · rw [← (hG X hX).k]
    exact pt_truth (pe_U hX) (fun wh => he _ wh)
  · refine h env st as σ H _ h0 S ?_
    cases q : a env st with
    | val vs st1 =>
      rw [q] at hP
      match vs, hP with
      | [v], ⟨b, hb, k⟩ => exact fun as1 w H1 p R1 r => ⟨b, truth_ok R1 r hb, k as1 H1 p R1⟩
      | [], hP => exact hP.elim
      | _ :: _ :: _, hP => exact hP.elim
    | exc c fs en st1 =>
      rw [q] at hP
      exact hP
    | nxt a b => rw [q] at hP; exact hP.elim
    | ret a b => rw [q] at hP; exact hP.elim
    | stk => rw [q] at hP; exact hP.elim
/-- what a test asks of a run -/
def PT' (cls : Cz) (as : List Addr) (r : R) (Q : Bool → Hp → Prop) (X : XK) : Prop := match r with
  | .val [v] st' => ∃ b, truth v st' = some b ∧ ∀ as' H', as <+: as' → Rel cls as' st' H' → Q b H'
  | .exc c fs _ st' => ∀ as' H' cv d, as <+: as' → Rel cls as' st' H' → XR cls as' st' c fs cv d H' → X cv d H'
  | _ => False
theorem ST.run (h : ST cls G W e a) {env : Ev} {st : Store} {as : List Addr} {σ : L2.St} {H : Hp} {Q : Bool → Hp → Prop} (h0 : Rel cls as st H) (h1 : SR as env σ) (hP : PT' cls as (a env st) Q (fun c d H' => W c d σ H')) : UT G e σ H Q := h env st as σ H Q h0 h1 (by
  unfold PT' at hP
  exact hP)
/-- a test, then two ways of an expression -/
theorem ST.go (h : ST cls G W e a) {env : Ev} {st : Store} {as : List Addr} {σ : L2.St} {H : Hp} {Q : VK} (h0 : Rel cls as st H) (h1 : SR as env σ) {k : V → Store → R} (hP : PV cls as ((a env st).b1 k) Q (fun c d H' => W c d σ H')) {Q' : Bool → Hp → Prop}
    (g : ∀ v b st1 as1 H1, as <+: as1 → Rel cls as1 st1 H1 → SR as1 env σ → truth v st1 = some b → PV cls as1 (k v st1) Q (fun c d H' => W c d σ H') → Q' b H1) (hk : ∀ v st1, truth v st1 = none → k v st1 = .stk) : UT G e σ H Q' := by
  refine h.run h0 h1 ?_
  unfold PT'
  cases q : a env st with
  | val vs st1 =>
    rw [q] at hP
    match vs, hP with
    | [v], hP =>
      cases ht : truth v st1 with
      | none =>
        have hP2 : PV cls as (k v st1) Q (fun c d H' => W c d σ H') := hP
        rw [hk v st1 ht] at hP2
        exact hP2.elim
      | some b => exact ⟨b, ht, fun as1 H1 p R1 => g v b st1 as1 H1 p R1 (h1.mono p) ht (PV.mono p hP)⟩
    | [], hP => exact hP.elim
    | _ :: _ :: _, hP => exact hP.elim
  | exc c fs en st1 =>
    rw [q] at hP
    exact hP
  | nxt a b => rw [q] at hP; exact hP.elim
  | ret a b => rw [q] at hP; exact hP.elim
  | stk => rw [q] at hP; exact hP.elim

section
variable (hG : ∀ X, G X → GX P w K mg base cls (lv + 1) S mo X ∧ Tk cls.bad X W)
include hG
theorem hGB : ∀ X, G X → GB K mo X := fun X hX => (hG X hX).1.gb
theorem se_var {i : Nat} (hN : S.N[i]? = some x) (hv : Vis S.sc x) (hd : (x == ("__debug__" : Str)) = false) (hcd : (x == ("__classdict__" : Str)) = false) :
    SE cls G W (.Name x pos) (fun env st => match env[i]? with
      | some (some v) => one v st
      | _ => .stk) := by
  intro env st as σ H Q h0 h1 hP; dsimp only at hP
  split at hP
  · rename_i v e
    obtain ⟨w, q, r⟩ := h1.at_ i v e
    exact ⟨tVar i, fun X hX => pe_var (by rw [(hG X hX).1.n]; exact hN) (by rw [(hG X hX).1.scope]; exact hv) hd hcd, w, q, hP.got h0 r⟩
  · exact hP.elim
omit hG in
theorem se_cst {k : Const} {j : Nat} {v : V} (h : match k, v with
    | .none, .non => True
    | .bool b, .bl c => b = c
    | .int i, .int l => i = l
    | .str s, .str t => s = t
    | _, _ => False) : SE cls G W (.Constant k j pos) (fun _ st => one v st) := by
  intro env st as σ H Q h0 h1 hP; dsimp only at hP
  split at h
  · exact ⟨tC .non, fun X hX => pe_non, hP.got h0 rfl⟩
  · subst h; exact ⟨tC (.bl _), fun X hX => pe_bl, hP.got h0 rfl⟩
  · subst h; exact ⟨tC (.int _), fun X hX => pe_int, hP.got h0 rfl⟩
  · subst h; exact ⟨tC (.str _), fun X hX => pe_str, hP.got h0 rfl⟩
  · exact h.elim
theorem gl_of {X : Cx} (hX : G X) (hg : S.sc.names.lookup x = some .globalImplicit) : Gl X x := by
  show X.env.scope.names.lookup x = some .globalImplicit
  rw [(hG X hX).1.scope]
  exact hg
theorem se_glo (T : Tab P w K mg base cls Pg cf lv) (hg : S.sc.names.lookup x = some .globalImplicit) (hd : (x == ("__debug__" : Str)) = false) :
    SE cls G W (.Name x pos) (fun _ st => match Pg.glo x with
      | some v => one v st
      | none => .stk) := by
  intro env st as σ H Q h0 h1 hP; dsimp only at hP
  split at hP
  · rename_i v e
    obtain ⟨hs, u, hu, r⟩ := T.glo x v e
    exact ⟨tC v, fun X hX => pe_glob (gl_of hG hX hg) (by rw [(hG X hX).1.mg]; exact hu) r hd, hP.got h0 (VR.of hs)⟩
  · exact hP.elim
theorem se_bin {op : Operator} (ha : SE cls G W ea a) (hb : SE cls G W eb b) : SE cls G W (.BinOp ea op eb pos) (fun env st => (a env st).b1 fun x st1 => (b env st1).b1 fun y st2 => binD op x y st2) := by
  intro env st as σ H Q h0 h1 hP; dsimp only at hP
  exact ⟨tOp (UOp G (binaryOp op)) (UE G ea) (UE G eb), fun X hX => pe_op (op_U hX) (pe_U hX) (pe_U hX),
    ha.go h0 h1 hP fun v st1 as1 w H1 p1 R1 S1 V1 hP1 => hb.go R1 S1 hP1 fun u st2 as2 y H2 p2 R2 S2 V2 hP2 => bin_ok (hGB hG) R2 (V1.mono p2) V2 hP2⟩
omit hG in
theorem se_neg (ha : SE cls G W ea a) : SE cls G W (.UnaryOp .USub ea pos) (fun env st => (a env st).b1 fun x st1 => match x with
    | .int i => one (.int (-i)) st1
    | _ => .stk) := by
  intro env st as σ H Q h0 h1 hP; dsimp only at hP
  refine ⟨tUn (rU fun i => .int (-i)) (UE G ea), fun X hX => pe_un un_neg (pe_U hX), ha.go h0 h1 hP fun v st1 as1 w H1 p1 R1 S1 V1 hP1 => ?_⟩
  split at hP1
  · cases V1
    exact ⟨_, rfl, hP1.got R1 rfl⟩
  · exact hP1.elim
omit hG in
theorem ofB_none {v : V} {st : Store} (h : truth v st = none) : ofB ((truth v st).map (!·)) st = .stk := by rw [h]; rfl
theorem se_not (ha : ST cls G W ea a) (hE : SE cls G W ea a) : SE cls G W (.UnaryOp .Not ea pos) (fun env st => (a env st).b1 fun x st1 => ofB ((truth x st1).map (!·)) st1) := by
  intro env st as σ H Q h0 h1 hP; dsimp only at hP
  refine ⟨tNotT K (UE G ea), fun X hX => ?_, hE.go h0 h1 hP fun v st1 as1 w H1 p1 R1 S1 V1 hP1 => ?_⟩
  · rw [← (hG X hX).1.k]
    exact pe_notT (pe_U hX)
  · cases ht : truth v st1 with
    | none =>
      rw [ht] at hP1
      exact hP1.elim
    | some b =>
      rw [ht] at hP1
      exact ⟨b, truth_ok R1 V1 ht, PV.got (v := .bl (!b)) hP1 R1 rfl⟩
omit hG in
theorem st_not (ha : ST cls G W ea a) : ST cls G W (.UnaryOp .Not ea pos) (fun env st => (a env st).b1 fun x st1 => ofB ((truth x st1).map (!·)) st1) := by
  intro env st as σ H Q h0 h1 hP; dsimp only at hP
  refine ⟨tNot (UT G ea), fun X hX => pt_not (pt_U hX), ?_⟩
  refine ha.run h0 h1 ?_
  unfold PT'
  cases q : a env st with
  | val vs st1 =>
    rw [q] at hP
    match vs, hP with
    | [v], hP =>
      cases ht : truth v st1 with
      | none =>
        have hP2 : (match ofB ((truth v st1).map (!·)) st1 with
          | .val [v] st' => ∃ b, truth v st' = some b ∧ ∀ as' H', as <+: as' → Rel cls as' st' H' → Q b H'
          | .exc c fs _ st' => ∀ as' H' cv d, as <+: as' → Rel cls as' st' H' → XR cls as' st' c fs cv d H' → W cv d σ H'
          | _ => False) := hP
        rw [ht] at hP2
        exact hP2.elim
      | some b =>
        have hP2 : (match ofB ((truth v st1).map (!·)) st1 with
          | .val [v] st' => ∃ b, truth v st' = some b ∧ ∀ as' H', as <+: as' → Rel cls as' st' H' → Q b H'
          | .exc c fs _ st' => ∀ as' H' cv d, as <+: as' → Rel cls as' st' H' → XR cls as' st' c fs cv d H' → W cv d σ H'
          | _ => False) := hP
        rw [ht] at hP2
        obtain ⟨b', hb', k⟩ := hP2
        have e2 : (!b) = b' := Option.some.inj hb'
        subst e2
        exact ⟨b, ht, k⟩
    | [], hP => exact hP.elim
    | _ :: _ :: _, hP => exact hP.elim
  | exc c fs en st1 =>
    rw [q] at hP
    exact hP
  | nxt a b => rw [q] at hP; exact hP.elim
  | ret a b => rw [q] at hP; exact hP.elim
  | stk => rw [q] at hP; exact hP.elim
theorem se_cmp {op : CmpOp} (hm : behindInMarks op eb = false) (ha : SE cls G W ea a) (hb : SE cls G W eb b) : SE cls G W (.Compare ea [op] [eb] pos) (fun env st => (a env st).b1 fun x st1 => (b env st1).b1 fun y st2 => cmpD op x y st2) := by
  intro env st as σ H Q h0 h1 hP; dsimp only at hP
  exact ⟨tOp (UOp G (compareOp op)) (UE G ea) (UE G eb), fun X hX => pe_cmpR (op_U hX) (pe_U hX) (pe_U hX) hm,
    ha.go h0 h1 hP fun v st1 as1 w H1 p1 R1 S1 V1 hP1 => hb.go R1 S1 hP1 fun u st2 as2 y H2 p2 R2 S2 V2 hP2 => cmp_ok (hGB hG) R2 (V1.mono p2) V2 hP2⟩

/-! ### and, or, if -/
def SW (cls : Cz) (G : Cx → Prop) (W : WX) (e : Expr) (f : Ev → Store → R) : Prop := ∀ env st as σ H (Q : Bool → Hp → Prop), Rel cls as st H → SR as env σ → PT' cls as (f env st) Q (fun c d H' => W c d σ H') →
  ∃ t, (∀ X, G X → PW X e t) ∧ t σ H Q
omit hG in
theorem SW.st (h : SW cls G W e a) : ST cls G W e a := fun env st as σ H Q h0 h1 hP => by
  obtain ⟨t, ht, q⟩ := h env st as σ H Q h0 h1 hP
  exact ⟨t, fun X hX => (ht X hX).pt, q⟩
def fAnd (a b : Ev → Store → R) : Ev → Store → R := fun env st => (a env st).b1 fun x st1 => match truth x st1 with
  | none => .stk
  | some true => b env st1
  | some false => one x st1
def fOr (a b : Ev → Store → R) : Ev → Store → R := fun env st => (a env st).b1 fun x st1 => match truth x st1 with
  | none => .stk
  | some true => one x st1
  | some false => b env st1
omit hG in
/-- a test, then what its truth leads to -/
theorem ST.goT (h : ST cls G W e a) {env : Ev} {st : Store} {as : List Addr} {σ : L2.St} {H : Hp} {QT : Bool → Hp → Prop} (h0 : Rel cls as st H) (h1 : SR as env σ) {k : V → Store → R} (hP : PT' cls as ((a env st).b1 k) QT (fun c d H' => W c d σ H')) {Q' : Bool → Hp → Prop}
    (g : ∀ v b st1 as1 H1, as <+: as1 → Rel cls as1 st1 H1 → SR as1 env σ → truth v st1 = some b → PT' cls as1 (k v st1) QT (fun c d H' => W c d σ H') → Q' b H1) (hk : ∀ v st1, truth v st1 = none → k v st1 = .stk) : UT G e σ H Q' := by
  refine h.run h0 h1 ?_
  unfold PT'
  cases q : a env st with
  | val vs st1 =>
    rw [q] at hP
    match vs, hP with
    | [v], hP =>
      cases ht : truth v st1 with
      | none =>
        have hP2 : PT' cls as (k v st1) QT (fun c d H' => W c d σ H') := hP
        rw [hk v st1 ht] at hP2
        exact hP2.elim
      | some b =>
        have hP2 : PT' cls as (k v st1) QT (fun c d H' => W c d σ H') := hP
        refine ⟨b, ht, fun as1 H1 p R1 => g v b st1 as1 H1 p R1 (h1.mono p) ht ?_⟩
        unfold PT' at hP2 ⊢
        split
        · rename_i v2 st2 e2
          rw [e2] at hP2
          obtain ⟨b2, hb2, k2⟩ := hP2
          exact ⟨b2, hb2, fun a' H' z => k2 a' H' (p.trans z)⟩
        · rename_i c fs en st2 e2
          rw [e2] at hP2
          exact fun a' H' cv d z => hP2 a' H' cv d (p.trans z)
        · rename_i n1 n2
          split at hP2
          · rename_i e2
            exact absurd e2 (n1 _ _)
          · rename_i e2
            exact absurd e2 (n2 _ _ _ _)
          · exact hP2
    | [], hP => exact hP.elim
    | _ :: _ :: _, hP => exact hP.elim
  | exc c fs en st1 =>
    rw [q] at hP
    exact hP
  | nxt a b => rw [q] at hP; exact hP.elim
  | ret a b => rw [q] at hP; exact hP.elim
  | stk => rw [q] at hP; exact hP.elim
omit hG in
theorem sw_and {rest : List Expr} (ha : ST cls G W ea a) (hb : SW cls G W (.BoolOp .And (eb :: rest) pos) b) : SW cls G W (.BoolOp .And (ea :: eb :: rest) pos) (fAnd a b) := by
  intro env st as σ H Q h0 h1 hP
  refine ⟨tAnd (UT G ea) (fun σ H Q => ∃ t, (∀ X, G X → PW X (.BoolOp .And (eb :: rest) pos) t) ∧ t σ H Q), fun X hX => pw_and (pt_U hX) ⟨fun wh pins s σ H Q I ⟨t, ht, q⟩ => (ht X hX).run wh pins s σ H Q I q⟩, ?_⟩
  refine ha.goT h0 h1 hP (fun v k st1 as1 H1 p1 R1 S1 ht hP1 => ?_) (fun v st1 ht => by simp only [ht])
  rw [ht] at hP1
  cases k with
  | true =>
    show ∃ t, _
    exact hb env st1 as1 σ H1 Q R1 S1 hP1
  | false =>
    obtain ⟨b2, hb2, k2⟩ := hP1
    have e2 : false = b2 := Option.some.inj (ht.symm.trans hb2)
    subst e2
    exact k2 as1 H1 (List.prefix_refl _) R1
omit hG in
theorem sw_or {rest : List Expr} (ha : ST cls G W ea a) (hb : SW cls G W (.BoolOp .Or (eb :: rest) pos) b) : SW cls G W (.BoolOp .Or (ea :: eb :: rest) pos) (fOr a b) := by
  intro env st as σ H Q h0 h1 hP
  refine ⟨tOr (UT G ea) (fun σ H Q => ∃ t, (∀ X, G X → PW X (.BoolOp .Or (eb :: rest) pos) t) ∧ t σ H Q), fun X hX => pw_or (pt_U hX) ⟨fun wh pins s σ H Q I ⟨t, ht, q⟩ => (ht X hX).run wh pins s σ H Q I q⟩, ?_⟩
  refine ha.goT h0 h1 hP (fun v k st1 as1 H1 p1 R1 S1 ht hP1 => ?_) (fun v st1 ht => by simp only [ht])
  rw [ht] at hP1
  cases k with
  | false =>
    show ∃ t, _
    exact hb env st1 as1 σ H1 Q R1 S1 hP1
  | true =>
    obtain ⟨b2, hb2, k2⟩ := hP1
    have e2 : true = b2 := Option.some.inj (ht.symm.trans hb2)
    subst e2
    exact k2 as1 H1 (List.prefix_refl _) R1
omit hG in
theorem sw_one {op : BoolOp} (ha : ST cls G W ea a) : SW cls G W (.BoolOp op [ea] pos) a := by
  intro env st as σ H Q h0 h1 hP
  cases op with
  | And => exact ⟨UT G ea, fun X hX => pw_and1 (pt_U hX), ha.run h0 h1 hP⟩
  | Or => exact ⟨UT G ea, fun X hX => pw_or1 (pt_U hX), ha.run h0 h1 hP⟩
omit hG in
theorem se_one {op : BoolOp} (ha : SE cls G W ea a) : SE cls G W (.BoolOp op [ea] pos) a := fun env st as σ H Q h0 h1 hP => ⟨UE G ea, fun X hX => pe_one (pe_U hX), ha env st as σ H Q h0 h1 hP⟩
theorem se_and {rest : List Expr} (ha : SE cls G W ea a) (hb : SE cls G W (.BoolOp .And (eb :: rest) pos) b) : SE cls G W (.BoolOp .And (ea :: eb :: rest) pos) (fAnd a b) := by
  intro env st as σ H Q h0 h1 hP
  refine ⟨tAndT K (UE G ea) (UE G (.BoolOp .And (eb :: rest) pos)), fun X hX => ?_, ha.go h0 h1 hP fun v st1 as1 w H1 p1 R1 S1 V1 hP1 => ?_⟩
  · rw [← (hG X hX).1.k]
    exact pe_andT (pe_U hX) (pe_U hX)
  · split at hP1
    · exact hP1.elim
    · rename_i ht
      exact ⟨true, truth_ok R1 V1 ht, by rw [if_pos rfl]; exact hb env st1 as1 σ H1 Q R1 S1 hP1⟩
    · rename_i ht
      exact ⟨false, truth_ok R1 V1 ht, by rw [if_neg (by decide)]; exact hP1.got R1 V1⟩
theorem se_or {rest : List Expr} (ha : SE cls G W ea a) (hb : SE cls G W (.BoolOp .Or (eb :: rest) pos) b) : SE cls G W (.BoolOp .Or (ea :: eb :: rest) pos) (fOr a b) := by
  intro env st as σ H Q h0 h1 hP
  refine ⟨tOrT K (UE G ea) (UE G (.BoolOp .Or (eb :: rest) pos)), fun X hX => ?_, ha.go h0 h1 hP fun v st1 as1 w H1 p1 R1 S1 V1 hP1 => ?_⟩
  · rw [← (hG X hX).1.k]
    exact pe_orT (pe_U hX) (pe_U hX)
  · split at hP1
    · exact hP1.elim
    · rename_i ht
      exact ⟨true, truth_ok R1 V1 ht, by rw [if_pos rfl]; exact hP1.got R1 V1⟩
    · rename_i ht
      exact ⟨false, truth_ok R1 V1 ht, by rw [if_neg (by decide)]; exact hb env st1 as1 σ H1 Q R1 S1 hP1⟩
def fIte (c a b : Ev → Store → R) : Ev → Store → R := fun env st => (c env st).b1 fun x st1 => match truth x st1 with
  | none => .stk
  | some true => a env st1
  | some false => b env st1
omit hG in
theorem se_ife (hc : ST cls G W ec c) (ha : SE cls G W ea a) (hb : SE cls G W eb b) : SE cls G W (.IfExp ec ea eb pos) (fIte c a b) := by
  intro env st as σ H Q h0 h1 hP
  refine ⟨tIf (UT G ec) (UE G ea) (UE G eb), fun X hX => pe_ifExp (pt_U hX) (pe_U hX) (pe_U hX), hc.go h0 h1 hP (fun v k st1 as1 H1 p1 R1 S1 ht hP1 => ?_) (fun v st1 ht => by simp only [ht])⟩
  rw [ht] at hP1
  cases k with
  | true =>
    rw [if_pos rfl]
    exact ha env st1 as1 σ H1 Q R1 S1 hP1
  | false =>
    rw [if_neg (by decide)]
    exact hb env st1 as1 σ H1 Q R1 S1 hP1
/-- a < b < c -/
theorem se_cmp2 {op op' : CmpOp} (hm : lastMarks [op, op'] [eb, ec] = false) (ha : SE cls G W ea a) (hb : SE cls G W eb b) (hc : SE cls G W ec c) : SE cls G W (.Compare ea [op, op'] [eb, ec] pos) (fun env st => (a env st).b1 fun x st1 => (b env st1).b1 fun y st2 => (cmpD op x y st2).b1 fun z st3 => match z with
    | .bl true => (c env st3).b1 fun w st4 => cmpD op' y w st4
    | .bl false => one (.bl false) st3
    | _ => .stk) := by
  intro env st as σ H Q h0 h1 hP; dsimp only at hP
  refine ⟨tChain (UOp G (compareOp op)) (UOp G (compareOp op')) (UE G ea) (UE G eb) (UE G ec), fun X hX => pe_chain (op_U hX) (op_U hX) (pe_U hX) (pe_U hX) (pe_U hX) hm,
    ha.go h0 h1 hP fun v st1 as1 w H1 p1 R1 S1 V1 hP1 => hb.go R1 S1 hP1 fun u st2 as2 y H2 p2 R2 S2 V2 hP2 => ?_⟩
  refine cmp_ok (hGB hG) R2 (V1.mono p2) V2 (X := fun c d H' => W c d σ H') ?_
  cases q : cmpD op v u st2 with
  | val vs st3 =>
    rw [q] at hP2
    match vs, hP2 with
    | [z0], hP2 =>
      intro as3 z H3 p3 R3 V3
      have hP3 := PV.mono p3 hP2
      cases z0 with
      | bl k =>
        cases V3
        cases k with
        | true =>
          refine ⟨true, rfl, ?_⟩
          rw [if_pos rfl]
          exact hc.go R3 (S2.mono p3) hP3 fun w4 st4 as4 w' H4 p4 R4 S4 V4 hP4 => cmp_ok (hGB hG) R4 ((V2.mono p3).mono p4) V4 hP4
        | false =>
          refine ⟨false, rfl, ?_⟩
          rw [if_neg (by decide)]
          exact PV.got (v := .bl false) hP3 R3 rfl
      | _ => exact hP3.elim
    | [], hP2 => exact hP2.elim
    | _ :: _ :: _, hP2 => exact hP2.elim
  | exc c fs en st1 =>
    rw [q] at hP2
    exact hP2
  | nxt a b => rw [q] at hP2; exact hP2.elim
  | ret a b => rw [q] at hP2; exact hP2.elim
  | stk => rw [q] at hP2; exact hP2.elim
/-! ### arguments, displays -/
omit hG in
theorem sa_nil : SA cls G W [] (fun _ st => .val [] st) := fun env st as σ H Q h0 h1 hP => ⟨tNil, fun X hX => pa_nil, hP as [] H (List.prefix_refl _) h0 .nil⟩
omit hG in
theorem sa_cons (hs : isStar ea = false) (ha : SE cls G W ea a) (hb : SA cls G W es b) : SA cls G W (ea :: es) (fun env st => (a env st).b1 fun x st1 => (b env st1).bs fun xs st2 => .val (x :: xs) st2) := fun env st as σ H Q h0 h1 hP => by
  refine ⟨tCons (UE G ea) (UA G es), fun X hX => pa_cons (pe_U hX) (pa_U hX) (star_cons hs), ha.goL h0 h1 hP fun v st1 as1 w H1 p1 R1 S1 V1 hP1 => hb.goL R1 S1 hP1 fun us st2 as2 ws H2 p2 R2 S2 V2 hP2 => ?_⟩
  exact hP2 as2 (w :: ws) H2 (List.prefix_refl _) R2 (.cons (V1.mono p2) V2)
omit hG in
theorem se_tup {k : Nat} (ha : SA cls G W es a) : SE cls G W (.Tuple es k pos) (fun env st => (a env st).bs fun xs st1 => if xs.length ≤ sz then new (.tup xs) st1 else .stk) := fun env st as σ H Q h0 h1 hP => by
  refine ⟨tTup (UA G es), fun X hX => pe_tup (pa_U hX), ha.go h0 h1 hP fun vs st1 as1 ws H1 p1 R1 S1 V1 hP1 => ?_⟩
  split at hP1
  · rename_i hl
    exact ⟨by rw [← sz_eq, ← P.length V1]; exact hl, fun p hp => hP1.newT R1 V1 hp⟩
  · exact hP1.elim
omit hG in
theorem se_lst (ha : SA cls G W es a) : SE cls G W (.List es pos) (fun env st => (a env st).bs fun xs st1 => if xs.length ≤ sz then new (.lst xs) st1 else .stk) := fun env st as σ H Q h0 h1 hP => by
  refine ⟨tLst (UA G es), fun X hX => pe_lst (pa_U hX), ha.go h0 h1 hP fun vs st1 as1 ws H1 p1 R1 S1 V1 hP1 => ?_⟩
  split at hP1
  · rename_i hl
    exact ⟨by rw [← sz_eq, ← P.length V1]; exact hl, fun p hp => hP1.newL R1 V1 hp⟩
  · exact hP1.elim
omit hG in
theorem se_dic0 : SE cls G W (.Dict [] [] pos) (fun _ st => new (.dK []) st) := fun env st as σ H Q h0 h1 hP =>
  ⟨tDNewK, fun X hX => pe_dnewK, fun p hp => hP.laid h0 hp ⟨[], .nil, upd_same⟩⟩
/-! ### subscripts, slices, fields -/
def noSlice : Expr → Bool
  | .Slice _ _ _ _ => false
  | _ => true
omit hG in
theorem plainIx {e : Expr} (h : noSlice e = true) : PlainIx e := fun o i => by
  cases e <;> first | rfl | cases h
theorem se_idx (hs : noSlice eb = true) (ha : SE cls G W ea a) (hb : SE cls G W eb b) : SE cls G W (.Subscript ea eb pos) (fun env st => (a env st).b1 fun x st1 => (b env st1).b1 fun y st2 => idxD x y st2) := by
  intro env st as σ H Q h0 h1 hP
  exact ⟨tOp (UIx G) (UE G ea) (UE G eb), fun X hX => pe_ix (ix_U hX) (pe_U hX) (pe_U hX) (plainIx hs),
    ha.go h0 h1 hP fun v st1 as1 w H1 p1 R1 S1 V1 hP1 => hb.go R1 S1 hP1 fun u st2 as2 y H2 p2 R2 S2 V2 hP2 => idx_ok (hGB hG) R2 (V1.mono p2) V2 hP2⟩
omit hG in
theorem so_none : SO cls G W none (fun _ st => .val [] st) := fun env st as σ H Q h0 h1 hP => by
  obtain ⟨l, hl, k⟩ := hP
  have : none = l := Option.some.inj hl
  subst this
  exact ⟨tNoPart, fun X hX => po_none, k as H (List.prefix_refl _) h0⟩
omit hG in
theorem so_some (ha : SE cls G W ea a) : SO cls G W (some ea) (fun env st => (a env st).b1 fun x st1 => .val [x] st1) := fun env st as σ H Q h0 h1 hP => by
  refine ⟨tPart (UE G ea), fun X hX => po_some (pe_U hX), ha env st as σ H _ h0 h1 ?_⟩
  dsimp only at hP
  cases q : a env st with
  | val vs st1 =>
    rw [q] at hP
    match vs, hP with
    | [v], hP =>
      obtain ⟨l, hl, k⟩ := hP
      cases v with
      | int i =>
        have : some i = l := Option.some.inj hl
        subst this
        exact fun as1 w H1 p R1 r => ⟨i, r, k as1 H1 p R1⟩
      | _ => cases hl
    | [], hP => exact hP.elim
    | _ :: _ :: _, hP => exact hP.elim
  | exc c fs en st1 =>
    rw [q] at hP
    exact hP
  | nxt a b => rw [q] at hP; exact hP.elim
  | ret a b => rw [q] at hP; exact hP.elim
  | stk => rw [q] at hP; exact hP.elim
omit hG in
theorem SO.go {e : Option Expr} (h : SO cls G W e a) {env : Ev} {st : Store} {as : List Addr} {σ : L2.St} {H : Hp} {Q : VK} (h0 : Rel cls as st H) (h1 : SR as env σ) {k : List V → Store → R} (hP : PV cls as ((a env st).bs k) Q (fun c d H' => W c d σ H')) {Q' : Option Int → Hp → Prop}
    (g : ∀ vs l st1 as1 H1, as <+: as1 → Rel cls as1 st1 H1 → SR as1 env σ → part vs = some l → PV cls as1 (k vs st1) Q (fun c d H' => W c d σ H') → Q' l H1) (hk : ∀ vs st1, part vs = none → ¬ PV cls as (k vs st1) Q (fun c d H' => W c d σ H')) : UO G e σ H Q' := by
  refine h env st as σ H Q' h0 h1 ?_
  cases q : a env st with
  | val vs st1 =>
    rw [q] at hP
    have hP2 : PV cls as (k vs st1) Q (fun c d H' => W c d σ H') := hP
    cases hl : part vs with
    | none => exact absurd hP2 (hk vs st1 hl)
    | some l => exact ⟨l, hl, fun as1 H1 p R1 => g vs l st1 as1 H1 p R1 (h1.mono p) hl (hP2.mono p)⟩
  | exc c fs en st1 =>
    rw [q] at hP
    exact hP
  | nxt a b => rw [q] at hP; exact hP.elim
  | ret a b => rw [q] at hP; exact hP.elim
  | stk => rw [q] at hP; exact hP.elim
omit hG in
theorem bs_stk {r : R} {Q : VK} {X : XK} {as : List Addr} {k : List V → Store → R} (hk : ∀ vs st, k vs st = .stk) (hx : ∀ c fs en st1, r = .exc c fs en st1 → False) : ¬ PV cls as (r.bs k) Q X := fun h => by
  cases r with
  | val vs st => 
    have h2 : PV cls as (k vs st) Q X := h
    rw [hk] at h2
    exact h2
  | exc c fs en st => exact hx _ _ _ _ rfl
  | _ => exact h
theorem se_slc {lo hi : Option Expr} {p2 : Pos} (ha : SE cls G W ea a) (hb : SO cls G W lo b) (hc : SO cls G W hi c) : SE cls G W (.Subscript ea (.Slice lo hi none p2) pos) (fun env st => (a env st).b1 fun x st1 => (b env st1).bs fun l st2 => match part l with
    | none => .stk
    | some l => (c env st2).bs fun h st3 => match part h with
      | none => .stk
      | some h => slcD x l h st3) := by
  intro env st as σ H Q h0 h1 hP; dsimp only at hP
  refine ⟨tSl (USl G) (UE G ea) (UO G lo) (UO G hi), fun X hX => pe_slice (sl_U hX) (pe_U hX) (po_U hX) (po_U hX),
    ha.go h0 h1 hP fun v st1 as1 w H1 p1 R1 S1 V1 hP1 => hb.go R1 S1 hP1 (fun vs l st2 as2 H2 p2 R2 S2 hl hP2 => ?_) (fun vs st hl => by rw [hl]; exact id)⟩
  rw [hl] at hP2
  refine hc.go R2 S2 hP2 (fun vs h st3 as3 H3 p3 R3 S3 hl3 hP3 => ?_) (fun vs st hl => by rw [hl]; exact id)
  rw [hl3] at hP3
  exact slc_ok (hGB hG) R3 ((V1.mono p2).mono p3) hP3
/-! ### fields -/
omit hG in
theorem KRs.lookup {as : List Addr} {f : Str} {v : V} : ∀ {fs gs : List (Str × V)}, KRs as fs gs → fs.lookup f = some v → ∃ w, gs.lookup f = some w ∧ VR as v w
  | _, _, .nil, h => by cases h
  | _, _, .cons (a := p) (b := q) g r, h => by
    obtain ⟨g1, g2⟩ := g
    rw [List.lookup_cons] at h ⊢
    rw [← g1]
    cases e : (f == p.1) with
    | true =>
      rw [e] at h
      exact ⟨q.2, rfl, by rw [← Option.some.inj h]; exact g2⟩
    | false =>
      rw [e] at h
      exact KRs.lookup r h
omit hG in
theorem KRs.lookup_none {as : List Addr} {f : Str} : ∀ {fs gs : List (Str × V)}, KRs as fs gs → fs.lookup f = none → gs.lookup f = none
  | _, _, .nil, h => rfl
  | _, _, .cons (a := p) (b := q) g r, h => by
    obtain ⟨g1, g2⟩ := g
    rw [List.lookup_cons] at h ⊢
    rw [← g1]
    cases e : (f == p.1) with
    | true =>
      rw [e] at h
      cases h
    | false =>
      rw [e] at h
      exact KRs.lookup_none r h
omit hG in
/-- an object's field, a handled exception's -/
def tFldX (K : PySem.W.Frag) (xi : XI) (te : TE) (f : Str) : TE := fun σ H Q => te σ H fun x H1 =>
  (∃ a C dx fs v, x = .ref a ∧ H1 a = some (.ins C dx fs) ∧ Cls K C ∧ NoAttr K C f ∧ fs.lookup f = some v ∧ Q v H1) ∨
  (∃ (a D dd : Addr) (fs : List (Str × V)) (v : V), x = .ref a ∧ xi a (.ref D) (some dd) ∧ ExcT K D ∧ PySem.W.findIn K (.ref D) f = some none ∧ H1 dd = some (.xd fs) ∧ fs.lookup f = some v ∧ Q v H1)
omit hG in
theorem GX.pinX {lv : Nat} {X : Cx} (h : GX P w K mg base cls lv S mo X) {a D : Addr} {d : Option Addr} (z : exX cls.xi a (.ref D) d) : ∃ oe, PinX X a D d oe := by
  obtain ⟨_, oe, h1, h2, h3⟩ := h.pin a _ d z
  exact ⟨oe, h1, h2.zc, h3⟩
omit hG in
theorem pe_fldX {lv : Nat} {X : Cx} {te : TE} {f : Str} (g : GX P w K mg base cls lv S mo X) (he : PE X ea te) (hb : attributeBase ea f X.env (eval ea X.env) = eval ea X.env) : PE X (.Attribute ea f pos) (tFldX K (exX cls.xi) te f) := by
  refine ⟨fun pins s σ H Q I h => attr_of hb (thn (he.run pins s σ H _ I h) ?_)⟩
  rintro u s1 ⟨x, H1, I1, rx, ⟨a, C, dx, fs, v, ex, ea', c, n, l, q⟩ | ⟨a, D, dd, fs, v, rfl, hxi, T, hno, ea', l, q⟩⟩
  · subst ex
    obtain rfl : u = Value.ref a := rx
    rw [← g.k] at c n
    exact getattr_ok I1 ea' c n l fun u' s2 I2 ru => ⟨v, H1, I2, ru, q⟩
  · obtain rfl : u = Value.ref a := rx
    obtain ⟨oe, p⟩ := g.pinX hxi
    rw [← g.k] at T hno
    obtain ⟨hget, _⟩ := I1.pin (a, oe) (List.mem_append_left _ p.mem)
    obtain ⟨vs, hv⟩ := p.fs
    have hx : ObjOk X.prog X.w H1 s1.heap dd (.xd fs) := I1.hok dd _ ea'
    obtain ⟨mA, hns, hr⟩ := hx
    obtain ⟨od, ho, hl⟩ := lookIn_ns hns
    obtain ⟨w, hw, rw'⟩ := RelO.some_of (v := v) (o := mA f) (by rw [← l]; exact hr f)
    have J : PySem.W.InstAt s1.heap a oe D (some od) := ⟨hget, p.zc.1, by unfold PySem.W.notCls; rw [hv] <;> rfl, by rw [p.zc.2]; exact ho⟩
    exact HandSPX.exc_get I1.kIn J T.ga T.gg T.su (PySem.W.findObj_own T.hd hno rfl (by rw [hl, hw])) (handed_of rw') ⟨v, H1, I1.tok _, rw', q⟩
omit hG in
/-- what a handled exception's entry tells -/
theorem Rel.exc {as : List Addr} {st : Store} {H : Hp} {w : V} (R : Rel cls as st H) {p : Nat} {c : Str} {fs : List (Str × V)} (h : VR as (.ref p) w) (e : st[p]? = some (.exc c fs)) : ∃ a d, w = .ref a ∧ exX cls.xi a (.ref (cls c)) d ∧ XF as st fs d H := by
  obtain ⟨a, q, rfl⟩ := h
  obtain ⟨d, x1, x2⟩ := R.ex p c fs a e q
  exact ⟨a, d, rfl, ⟨p, x1⟩, x2⟩
theorem se_fld (T : Tab P w K mg base cls Pg cf lv) {f : Str} (hb : plainBase ea = true) (ha : SE cls G W ea a) : SE cls G W (.Attribute ea f pos) (fun env st => (a env st).b1 fun x st1 => match x with
    | .ref p => match st1[p]? with
      | some (.ins c fs) => if Pg.fld c f then (match fs.lookup f with
        | some v => one v st1
        | none => .stk) else .stk
      | _ => .stk
    | _ => .stk) := by
  intro env st as σ H Q h0 h1 hP
  refine ⟨tFldX K (exX cls.xi) (UE G ea) f, fun X hX => pe_fldX (hG X hX).1 (pe_U hX) (base_ok hb), ha.go h0 h1 hP fun v st1 as1 w H1 p1 R1 S1 V1 hP1 => ?_⟩
  split at hP1
  · split at hP1
    · rename_i p _ c fs e
      obtain ⟨a, dx, gs, rfl, _, r, z⟩ := R1.ins V1 e
      split at hP1
      · rename_i hf
        split at hP1
        · rename_i v e2
          obtain ⟨w, q1, q2⟩ := KRs.lookup r e2
          exact .inl ⟨a, cls c, dx, gs, w, rfl, z, (T.fld c f hf).1, (T.fld c f hf).2, q1, hP1.got R1 q2⟩
        · exact hP1.elim
      · exact hP1.elim
    · exact hP1.elim
  · exact hP1.elim
theorem se_fldX (T : Tab P w K mg base cls Pg cf lv) {f : Str} (hb : plainBase ea = true) (ha : SE cls G W ea a) : SE cls G W (.Attribute ea f pos) (fun env st => (a env st).b1 fun x st1 => match x with
    | .ref p => match st1[p]? with
      | some (.exc c fs) => if Pg.xfld c f then (match fs.lookup f with
        | some v => one v st1
        | none => .stk) else .stk
      | _ => .stk
    | _ => .stk) := by
  intro env st as σ H Q h0 h1 hP
  refine ⟨tFldX K (exX cls.xi) (UE G ea) f, fun X hX => pe_fldX (hG X hX).1 (pe_U hX) (base_ok hb), ha.go h0 h1 hP fun v st1 as1 w H1 p1 R1 S1 V1 hP1 => ?_⟩
  split at hP1
  · split at hP1
    · rename_i p _ c fs e
      obtain ⟨a, d, rfl, hxi, xf⟩ := R1.exc V1 e
      split at hP1
      · rename_i hf
        split at hP1
        · rename_i v e2
          rcases xf with ⟨rfl, _⟩ | ⟨_, dd, gs, rfl, x2, x3, x4⟩
          · cases e2
          · obtain ⟨w, q1, q2⟩ := KRs.lookup x4 e2
            exact .inr ⟨a, cls c, dd, gs, w, rfl, hxi, (T.xfld c f hf).1, (T.xfld c f hf).2, x2, q1, hP1.got R1 q2⟩
        · exact hP1.elim
      · exact hP1.elim
    · exact hP1.elim
  · exact hP1.elim
end
end
end Mi
set_option maxHeartbeats 2000000
/-! Mi: calls. -/
namespace Mi
open PySem PySem.Spec PyProof.Rows L2 L2H

section
variable {P : Program} {w : World} {K : PySem.W.Frag} {mg : Str → Option Value} {base : Heap} {cls : Cz} {Pg : Prog} {cf : Bool → Str → List V → Store → R} {lv : Nat} {S : Sc} {mo : Mo} {G : Cx → Prop} {W : WX}
variable {e ea eb ec eo : Expr} {es : List Expr} {a b c o : Ev → Store → R} {x m : Str} {pos p apos : Pos}
variable {as : List Addr} {st : Store} {H : Hp} {Q : VK}

theorem exE_pv {r : R} {env : Ev} {X : XK} (h : PV cls as (exE r env) Q X) : PV cls as r Q X := by
  cases r with
  | exc c fs en st => exact h
  | _ => exact h
theorem dfl_rel {dv : List V} (h : dv.all (fun v => !isRef v) = true) : VRs as dv dv := by
  induction dv with
  | nil => exact .nil
  | cons v r ih =>
    obtain ⟨h1, h2⟩ := Bool.and_eq_true_iff.mp (show (!isRef v && r.all (fun v => !isRef v)) = true from h)
    exact .cons (VR.of (by simpa using h1)) (ih h2)
theorem all_drop {f : V → Bool} : ∀ {dv : List V} (n : Nat), dv.all f = true → (dv.drop n).all f = true
  | _, 0, h => h
  | [], n + 1, h => rfl
  | v :: r, n + 1, h => all_drop n (Bool.and_eq_true_iff.mp h).2
/-- what a callee promises in the mode -/
def spM (cls : Cz) (cf : Bool → Str → List V → Store → R) (mo : Mo) (f : Str) (n : Nat) : Sp := fun vs H Q E => ∃ h, mo = .on h ∧ spI cls (cf h) f n vs H Q E
/-- what a callee is handed: the arguments, the defaults -/
theorem spt_of (T : Tab P w K mg base cls Pg cf lv) {f : Str} {F : Fn} {ad : Addr} (hf : Pg.fn f = some F) (A : FnT P w K mg base cls cf lv f F ad) {vs ws : List V} {X : XK} (R : Rel cls as st H) (r : VRs as vs ws) (hP : PV cls as (cfm cf mo f vs st) Q X) :
    vs.length ≤ F.ps.length ∧ F.ps.length ≤ vs.length + F.dfl.length ∧ spM cls cf mo f F.ps.length (ws ++ F.dfl.drop (vs.length + F.dfl.length - F.ps.length)) H Q X := by
  match mo, hP with
  | .ine, hP => exact hP.elim
  | .on h, hP =>
    have hP : PV cls as (cf h f vs st) Q X := hP
    by_cases hl : vs.length ≤ F.ps.length ∧ F.ps.length ≤ vs.length + F.dfl.length
    · refine ⟨hl.1, hl.2, h, rfl, as, st, vs ++ F.dfl.drop (vs.length + F.dfl.length - F.ps.length), ?_, R, Mi.P.append r (dfl_rel (all_drop _ A.dfl)), ?_⟩
      · rw [List.length_append, List.length_drop]
        omega
      · rw [← (T.full h f F vs st hf).1 hl]
        exact hP
    · rw [(T.full h f F vs st hf).2 hl] at hP
      exact hP.elim
/-- a callee runs -/
theorem run_fnT {F : Fn} {f : Str} {ad : Addr} {X : Cx} {fd : FuncData} {us : List Value} {vs : List V} {ds : List Value} {dvs : List V} {pins : List (Addr × Obj)} {σ : L2.St} {s : Shared} (g : GX P w K mg base cls (lv + 1) S mo X) (tk : Tk cls.bad X W)
    (Fok : ∀ h xi, FnU cls.bad (exX xi) h P w K mg base (Out cls.bad P w) lv ad fd F.ps (spI (cls.x xi) (cf h) f F.ps.length)) (hb : Binds K fd F.ps ds) (hd : Vals dvs ds) (I : Inv X pins σ H s) (r : Vals vs us) (hq : spM cls cf mo f F.ps.length (vs ++ dvs) H Q (WE W σ)) :
    wpAny (model X.prog X.w) X.A (call (.ref ad) us) (EP X pins σ Q) X.xe s := by
  obtain ⟨h, rfl, hq⟩ := hq
  have md := g.md
  have rm := g.room.mono (Nat.le_succ lv)
  obtain rfl := g.prog
  obtain rfl := g.w
  obtain rfl := g.k
  obtain rfl := g.mg
  obtain rfl := g.base
  exact run_fnU (E := fun σ => WE W σ) (Fok h cls.xi) rm md hb hd (passAtB tk σ) I r hq
section
variable (hG : ∀ X, G X → GX P w K mg base cls (lv + 1) S mo X ∧ Tk cls.bad X W)
include hG
/-- f(..) -/
theorem se_call (T : Tab P w K mg base cls Pg cf lv) {f : Str} {F : Fn} (hs : noStar es = true) (hg : S.sc.names.lookup f = some .globalImplicit) (hd : (f == ("__debug__" : Str)) = false) (hF : Pg.fn f = some F) (ht : F.top = true) (ha : SA cls G W es a) :
    SE cls G W (.Call (.Name f p) es [] pos) (fun env st => (a env st).bs fun xs st1 => exE (cfm cf mo f xs st1) env) := by
  obtain ⟨ad, hm, A⟩ := T.fn f F hF ht
  obtain ⟨fd, Fok, Fb⟩ := A.ex
  intro env st as σ H Q h0 h1 hP; dsimp only at hP
  refine ⟨fun σ H Q => UA G es σ H fun ws H1 => ws.length ≤ F.ps.length ∧ F.ps.length ≤ ws.length + F.dfl.length ∧ spM cls cf mo f F.ps.length (ws ++ F.dfl.drop (ws.length + F.dfl.length - F.ps.length)) H1 Q (WE W σ), fun X hX => ?_, ?_⟩
  · have hgl := gl_of hG hX hg
    obtain ⟨g, tk⟩ := hG X hX
    refine ⟨fun pins s σ H Q I h => ?_⟩
    refine wpAny_Call_Name_kw (ld_glob I hgl (by rw [g.mg]; exact hm) ?_ hd)
    refine callWith_es hs (by rw [g.k]; exact A.kp) (pa_U hX) I h fun ws H1 us s1 ⟨l1, l2, q⟩ I1 r => ?_
    obtain ⟨ds, d1, d2⟩ := Fb ws.length l1 l2
    exact run_fnT g tk Fok d2 d1 I1 r q
  · refine ha.go h0 h1 hP fun vs st1 as1 ws H1 p1 R1 S1 V1 hP1 => ?_
    have := spt_of T hF A R1 V1 (exE_pv hP1)
    rw [Mi.P.length V1] at this
    exact this

/-- a method of an own class: the tree -/
theorem pe_methU (T : Tab P w K mg base cls Pg cf lv) {c f : Str} (hb : plainBase eo = true) (hs : noStar es = true) (hl : (apos.endLine == pos.line) = true) (hn : es.length < 30) (hm : Pg.meth c m = some f) {X : Cx} (hX : G X) :
    PE X (.Call (.Attribute eo m apos) es [] pos) (fun σ H Q => UE G eo σ H fun x H1 => ∃ ad dx gs, x = .ref ad ∧ H1 ad = some (.ins (cls c) dx gs) ∧ gs.lookup m = none ∧
      UA G es σ H1 fun ws H2 => ∃ F, Pg.fn f = some F ∧ ws.length + 1 ≤ F.ps.length ∧ F.ps.length ≤ ws.length + 1 + F.dfl.length ∧ spM cls cf mo f F.ps.length (x :: ws ++ F.dfl.drop (ws.length + 1 + F.dfl.length - F.ps.length)) H2 Q (WE W σ)) := by
  obtain ⟨F, ad, hF, hc, hme, A⟩ := T.meth c m f hm
  obtain ⟨fd, Fok, Fb⟩ := A.ex
  obtain ⟨g, tk⟩ := hG X hX
  refine ⟨fun pins s σ H Q I h => ?_⟩
  refine PySem.W.methodCall_KW (pl := plainOf eo X.env) (thn ((pe_U hX).run pins s σ H _ I h) fun u s1 ⟨x, H1, I1, rx, a, dx, gs, ex, ea, l, q⟩ => ?_) (meth_tree hb hs hl hn)
  subst ex
  obtain rfl : u = Value.ref a := rx
  refine getmeth_ok I1 ea (by rw [g.k]; exact hc) (by rw [g.k]; exact hme) l ?_
  refine callWith_es hs (by rw [g.k]; exact A.kp) (pa_U hX) I1 q fun ws H2 us s2 ⟨F', hF', l1, l2, q⟩ I2 r => ?_
  rw [hF] at hF'
  obtain rfl : F = F' := Option.some.inj hF'
  obtain ⟨ds, d1, d2⟩ := Fb (ws.length + 1) l1 l2
  exact run_fnT (us := .ref a :: us) (vs := .ref a :: ws) g tk Fok d2 d1 I2 (.cons rfl r) q
theorem se_meth (T : Tab P w K mg base cls Pg cf lv) (hb : plainBase eo = true) (hs : noStar es = true) (hl : (apos.endLine == pos.line) = true) (hn : es.length < 30) (ho : SE cls G W eo o) (ha : SA cls G W es a) :
    SE cls G W (.Call (.Attribute eo m apos) es [] pos) (fun env st => (o env st).b1 fun x st1 => match x with
    | .ref p => match st1[p]? with
      | some (.ins c fs) => if (fs.lookup m).isNone then (match Pg.meth c m with
          | some f => (a env st1).bs fun xs st2 => exE (cfm cf mo f (.ref p :: xs) st2) env
          | none => .stk) else .stk
      | _ => .stk
    | _ => .stk) := by
  intro env st as σ H Q h0 h1 hP; dsimp only at hP
  cases q : o env st with
  | val vs st1 =>
    rw [q] at hP
    match vs, hP with
    | [v], hP =>
      unfold R.b1 at hP
      dsimp only at hP
      split at hP
      · rename_i p _
        split at hP
        · rename_i c fs e
          split at hP
          · rename_i hlk
            split at hP
            · rename_i f hm
              refine ⟨_, fun X hX => pe_methU hG T (c := c) (f := f) hb hs hl hn hm hX, ?_⟩
              refine ho env st as σ H _ h0 h1 ?_
              rw [q]
              intro as1 w1 H1 p1 R1 V1
              obtain ⟨ad, dx, gs, rfl, i1, r1, z1⟩ := R1.ins V1 e
              refine ⟨ad, dx, gs, rfl, z1, KRs.lookup_none r1 (by simpa using hlk), ?_⟩
              refine ha.go R1 (h1.mono p1) (PV.mono p1 hP) fun xs st2 as2 ws H2 p2 R2 S2 V2 hP2 => ?_
              obtain ⟨F, adF, hF, hc, hme, A⟩ := T.meth c m f hm
              have h3 := spt_of T hF A R2 (Paired.cons (V1.mono p2) V2) (exE_pv hP2)
              rw [List.length_cons, Mi.P.length V2] at h3
              exact ⟨F, hF, h3⟩
            · exact hP.elim
          · exact hP.elim
        · exact hP.elim
      · exact hP.elim
    | [], hP => exact hP.elim
    | _ :: _ :: _, hP => exact hP.elim
  | exc c fs en st1 =>
    rw [q] at hP
    refine ⟨fun σ H Q => UE G eo σ H fun x H1 => False, fun X hX => ⟨fun pins s σ H Q I h => ?_⟩, ho env st as σ H _ h0 h1 (by rw [q]; exact hP)⟩
    exact PySem.W.methodCall_KW (pl := plainOf eo X.env) (thn ((pe_U hX).run pins s σ H _ I h) fun u s1 ⟨x, H1, I1, rx, z⟩ => z.elim) (meth_tree hb hs hl hn)
  | nxt a b => rw [q] at hP; exact hP.elim
  | ret a b => rw [q] at hP; exact hP.elim
  | stk => rw [q] at hP; exact hP.elim

/-! ### methods of built-in types -/
omit hG in
/-- what a method's tag stands for -/
structure MtI (m : Str) (T id : String) : Prop where
  pa : PlainAttrs T
  slot : Slot T m id
  ty : typeOf (.builtin id) = pure (.type "method_descriptor")
def mtT : Mt → String
  | .lAppend | .lClear | .lPop | .lExtend | .lIndex => "list"
  | .dGet | .dPop => "dict"
  | .sJoin | .sLines | .sZfill => "str"
def mtId : Mt → String
  | .lAppend => "list.append"
  | .lClear => "list.clear"
  | .lPop => "list.pop"
  | .lExtend => "list.extend"
  | .lIndex => "list.index"
  | .dGet => "dict.get"
  | .dPop => "dict.pop"
  | .sJoin => "str.join"
  | .sLines => "str.splitlines"
  | .sZfill => "str.zfill"
def mtN : Mt → Str
  | .lAppend => "append"
  | .lClear => "clear"
  | .lPop => "pop"
  | .lExtend => "extend"
  | .lIndex => "index"
  | .dGet => "get"
  | .dPop => "pop"
  | .sJoin => "join"
  | .sLines => "splitlines"
  | .sZfill => "zfill"
omit hG in
theorem mt_info (m : Mt) : MtI (mtN m) (mtT m) (mtId m) := by
  cases m
  · exact ⟨PySem.F.plainAttrs_list, PySem.F.slot_list_append, PySem.F.type_list_append⟩
  · exact ⟨PySem.F.plainAttrs_list, PySem.F.slot_list_clear, PySem.F.type_list_clear⟩
  · exact ⟨PySem.F.plainAttrs_list, PySem.F.slot_list_pop, PySem.F.type_list_pop⟩
  · exact ⟨PySem.F.plainAttrs_list, PySem.F.slot_list_extend, PySem.F.type_list_extend⟩
  · exact ⟨PySem.F.plainAttrs_list, PySem.F.slot_list_index, PySem.F.type_list_index⟩
  · exact ⟨PySem.F.plainAttrs_dict, PySem.F.slot_dict_get, PySem.F.type_dict_get⟩
  · exact ⟨PySem.F.plainAttrs_dict, PySem.F.slot_dict_pop, PySem.F.type_dict_pop⟩
  · exact ⟨PySem.F.plainAttrs_str, PySem.F.slot_str_join, PySem.F.type_str_join⟩
  · exact ⟨PySem.F.plainAttrs_str, PySem.F.slot_str_splitlines, PySem.F.type_str_splitlines⟩
  · exact ⟨PySem.F.plainAttrs_str, PySem.F.slot_str_zfill, PySem.F.type_str_zfill⟩
omit hG in
theorem bmTy_ok {m : Mt} {v x : V} (R : Rel cls as st H) (hx : VR as v x) (h : bmTy m v st = true) : tyV K (mtT m) x H := by
  unfold bmTy at h
  split at h
  · split at h
    iterate 4
      split at h
      · rename_i e
        obtain ⟨a, ys, rfl, _, _, z⟩ := R.lst hx e
        exact .inl ⟨rfl, ys, SqL.of z⟩
      · cases h
    · split at h
      · rename_i e
        obtain ⟨a, ys, rfl, _, _, z⟩ := R.lst hx e
        exact .inl ⟨rfl, ys, SqL.of z⟩
      · rename_i e
        obtain ⟨a, ys, rfl, _, _, z⟩ := R.fro hx e
        exact .inl ⟨rfl, ys, .inl z⟩
      · cases h
    iterate 2
      split at h
      · rename_i e
        obtain ⟨a, ys, rfl, _, _, z⟩ := R.dK hx e
        exact .inr (.inr (.inl ⟨rfl, .inl ⟨_, z⟩⟩))
      · cases h
    · cases h
  · cases hx
    split at h
    · rfl
    · rfl
    · rfl
    · cases h
  · cases h
omit hG in
theorem KRs.dropK {κ : Type} [DecidableEq κ] {as : List Addr} {k : κ} {kvs kws : List (κ × V)} (h : KRs as kvs kws) : KRs as (L2.dropK kvs k) (L2.dropK kws k) := by
  unfold L2.dropK
  induction h with
  | nil => exact .nil
  | cons f _ ih =>
    rw [List.filter_cons, List.filter_cons, f.1]
    split
    · exact .cons f ih
    · exact ih
omit hG in
theorem keyOf_rel {as : List Addr} {v w : V} {k : Key} (h : VR as v w) (e : keyOf? v = some k) : w = kV k := by
  cases v with
  | str a =>
    cases h
    cases e
    rfl
  | int a =>
    cases h
    cases e
    rfl
  | _ => cases e
omit hG in
theorem mt_dget {X : Cx} (hu : X.A.units + 1 < cLine) : MtR X "dict.get" (fun x xs H Q => ∃ a y ov, x = .ref a ∧ xs = [y] ∧ DGet H a y ov ∧ Q (ov.getD .non) H) := by
  intro pins s σ H x xs v us Q I rx rs h
  obtain ⟨a, y, ov, rfl, rfl, g, q⟩ := h
  cases rx
  cases rs with
  | cons r1 rs =>
    cases rs
    exact d_get1 hu I g r1 fun w' s3 I3 rw' => ⟨_, H, I3, rw', q⟩
omit hG in
theorem mt_dpop {X : Cx} : MtR X "dict.pop" (fun x xs H Q => ∃ a kvs k v, x = .ref a ∧ xs = [kV k] ∧ H a = some (.dK kvs) ∧ valV kvs k = some v ∧ Q v (upd H a (.dK (dropK kvs k)))) := by
  intro pins s σ H x xs v us Q I rx rs h
  obtain ⟨a, kvs, k, u, rfl, rfl, e, l, q⟩ := h
  cases rx
  cases rs with
  | cons r1 rs =>
    cases rs
    exact d_pop I e r1 l (.inl rfl) fun w' s3 I3 rw' => ⟨u, _, I3, rw', q⟩
omit hG in
theorem idxOf_at {y : V} : ∀ {zs : List V} {n j : Nat}, idxOf y zs n = some j → ∃ i z, j = n + i ∧ zs[i]? = some z ∧ eqV z y = true ∧ ∀ (m : Nat) (z' : V), m < i → zs[m]? = some z' → eqV z' y = false
  | [], n, j, h => by cases h
  | z :: zs, n, j, h => by
    unfold idxOf at h
    split at h
    · rename_i e
      cases h
      exact ⟨0, z, rfl, rfl, e, fun m z' hm _ => absurd hm (Nat.not_lt_zero m)⟩
    · rename_i e
      obtain ⟨i, z0, e1, e2, e3, e4⟩ := idxOf_at h
      refine ⟨i + 1, z0, by omega, e2, e3, fun m z' hm hz => ?_⟩
      cases m with
      | zero =>
        cases (Option.some.inj hz : z = z')
        simpa using e
      | succ m => exact e4 m z' (by omega) hz
theorem bmD_ok {m : Mt} {v x : V} {vs ws : List V} {X : XK} (R : Rel cls as st H) (hx : VR as v x) (hv : VRs as vs ws) (hP : PV cls as (bmD m v vs st) Q X) : UM G (mtId m) x ws H Q := by
  unfold bmD at hP
  split at hP
  · obtain ⟨w, rfl, r⟩ := vrs1 hv
    split at hP
    · rename_i xs e
      obtain ⟨a, ys, rfl, i1, r1, z⟩ := R.lst hx e
      split at hP
      · rename_i hl
        refine ⟨_, fun X hX => mt_append, a, ys, w, rfl, rfl, z, by rw [← sz_eq, ← Mi.P.length r1]; exact hl, ?_⟩
        exact hP.put R i1 e rfl ⟨_, Mi.P.append r1 (.cons r .nil), upd_same⟩ rfl
      · exact hP.elim
    · exact hP.elim
  · cases hv
    split at hP
    · rename_i xs e
      obtain ⟨a, ys, rfl, i1, r1, z⟩ := R.lst hx e
      refine ⟨_, fun X hX => mt_clear, a, ys, rfl, rfl, z, ?_⟩
      exact hP.put R i1 e rfl ⟨_, .nil, upd_same⟩ rfl
    · exact hP.elim
  · cases hv
    split at hP
    · rename_i xs e
      obtain ⟨a, ys, rfl, i1, r1, z⟩ := R.lst hx e
      split at hP
      · rename_i y e2
        obtain ⟨w, q1, q2⟩ := Mi.P.get r1 e2
        refine ⟨_, fun X hX => mt_pop, a, ys, w, rfl, rfl, z, by rw [← Mi.P.length r1]; exact q1, ?_⟩
        exact hP.put R i1 e rfl ⟨_, Mi.P.dropLast r1, upd_same⟩ q2
      · exact hP.elim
    · exact hP.elim
  · obtain ⟨w, rfl, r⟩ := vrs1 hv
    split at hP
    · rename_i xs ys e e2
      obtain ⟨a, xs', rfl, i1, r1, z⟩ := R.lst hx e
      obtain ⟨b, ys', rfl, i2, r2, z2⟩ := R.lst r e2
      split at hP
      · rename_i hl
        refine ⟨_, fun X hX => mt_extend, a, b, xs', ys', rfl, rfl, z, z2, by rw [← sz_eq, ← Mi.P.length r1, ← Mi.P.length r2]; exact hl, ?_⟩
        exact hP.put R i1 e rfl ⟨_, Mi.P.append r1 r2, upd_same⟩ rfl
      · exact hP.elim
    · exact hP.elim
  · obtain ⟨w, rfl, r⟩ := vrs1 hv
    split at hP
    · rename_i xs e
      obtain ⟨a, ys, rfl, r1, z⟩ := R.lstOf hx e
      split at hP
      · rename_i hf
        obtain ⟨f1, f2⟩ := Bool.and_eq_true_iff.mp hf
        obtain ⟨rfl, rfl⟩ := inV_rel r f1 r1 f2
        split at hP
        · rename_i j ej
          obtain ⟨i, z0, e1, e2, e3, e4⟩ := idxOf_at ej
          rw [Nat.zero_add] at e1
          subst e1
          refine ⟨rIndex K, fun X hX => ?_, a, _, _, j, z0, rfl, rfl, SqL.of z, f1, f2, e2, e3, e4, hP.got R rfl⟩
          rw [← (hG X hX).1.k]
          exact mt_index
        · exact hP.elim
      · exact hP.elim
    · exact hP.elim
  · obtain ⟨w, rfl, r⟩ := vrs1 hv
    split at hP
    · rename_i kvs k e e2
      obtain ⟨a, kws, rfl, i1, r1, z⟩ := R.dK hx e
      have ew := keyOf_rel r e2
      subst ew
      refine ⟨_, fun X hX => mt_dget (by have := (hGB hG X hX).units; omega), a, _, valV kws k, rfl, rfl, .inl ⟨kws, k, .inl z, rfl, rfl⟩, ?_⟩
      cases ev : valV kvs k with
      | none =>
        rw [ev] at hP
        rw [(valV_rel r1).2 ev]
        exact hP.got R rfl
      | some u =>
        rw [ev] at hP
        obtain ⟨u', q1, q2⟩ := (valV_rel r1).1 u ev
        rw [q1]
        exact hP.got R q2
    · exact hP.elim
  · obtain ⟨w, rfl, r⟩ := vrs1 hv
    split at hP
    · rename_i kvs k e e2
      obtain ⟨a, kws, rfl, i1, r1, z⟩ := R.dK hx e
      have ew := keyOf_rel r e2
      subst ew
      split at hP
      · rename_i u ev
        obtain ⟨u', q1, q2⟩ := (valV_rel r1).1 u ev
        refine ⟨_, fun X hX => mt_dpop, a, kws, k, u', rfl, rfl, z, q1, ?_⟩
        exact hP.put R i1 e rfl ⟨_, KRs.dropK r1, upd_same⟩ q2
      · exact hP.elim
    · exact hP.elim
  · obtain ⟨w, rfl, r⟩ := vrs1 hv
    cases hx
    split at hP
    · rename_i xs e
      split at hP
      · rename_i ys e2
        obtain ⟨p, rfl, z⟩ := R.strs r e e2
        split at hP
        · rename_i hl
          refine ⟨fun x xs H Q => ∃ a p, ∃ ys : List Str, x = .str a ∧ xs = [.ref p] ∧ (SqL K H p (ys.map V.str) ∨ SqT K H p (ys.map V.str)) ∧
            (ys.map (·.length)).sum + ys.length * a.length ≤ 16777216 ∧ Q (.str (Txt.join a ys)) H, fun X hX => ?_, _, p, ys, rfl, rfl, .inl (SqL.of z), hl, hP.got R rfl⟩
          rw [← (hG X hX).1.k]
          exact mt_join
        · exact hP.elim
      · exact hP.elim
    · exact hP.elim
  · cases hx
    cases hv
    split at hP
    · rename_i hl
      refine ⟨_, fun X hX => mt_lines, _, rfl, rfl, by rw [← sz_eq]; exact hl.1, by rw [← sz_eq]; exact hl.2, fun p hp => hP.newL R (strs_rel _) hp⟩
    · exact hP.elim
  · obtain ⟨w, rfl, r⟩ := vrs1 hv
    cases r
    cases hx
    split at hP
    · rename_i hl
      exact ⟨_, fun X hX => mt_zfill, _, _, rfl, rfl, hl, hP.got R rfl⟩
    · exact hP.elim
  · exact hP.elim
/-- len(set(xs)) -/
theorem se_lset (hmo : mo = .on false) (T : Tab P w K mg base cls Pg cf lv) {p2 q : Pos} (hs : isStar ea = false) (hg : S.sc.names.lookup ("len" : Str) = some .globalImplicit) (hg2 : S.sc.names.lookup ("set" : Str) = some .globalImplicit) (ha : SE cls G W ea a) :
    SE cls G W (.Call (.Name "len" p) [.Call (.Name "set" p2) [ea] [] q] [] pos) (fun env st => (a env st).b1 fun x st1 => match lstOf st1 x with
    | some xs => match allS xs with
      | some ys => if ys.length ≤ 4000 ∧ ys.Nodup then one (.int (ys.length : Nat)) st1 else .stk
      | none => .stk
    | none => .stk) := by
  intro env st as σ H Q h0 h1 hP; dsimp only at hP
  refine ⟨tLenTexts K (UE G ea), fun X hX => ?_, ha.go h0 h1 hP fun v st1 as1 w H1 p1 R1 S1 V1 hP1 => ?_⟩
  · have hm : X.mg "len" = none := by rw [(hG X hX).1.mg]; exact T.bi .len
    have hm2 : X.mg "set" = none := by rw [(hG X hX).1.mg]; exact T.set_
    rw [← (hG X hX).1.k]
    exact pe_lenTexts ((hG X hX).1.calm hmo) (gl_of hG hX hg) hm (gl_of hG hX hg2) hm2 (pe_U hX) (star_cons hs)
  · split at hP1
    · rename_i xs e
      split at hP1
      · rename_i ys e2
        obtain ⟨l, rfl, z⟩ := R1.strs V1 e e2
        split at hP1
        · rename_i hl
          exact ⟨l, ys, rfl, SqL.of z, hl.1, hl.2, hP1.got R1 rfl⟩
        · exact hP1.elim
      · exact hP1.elim
    · exact hP1.elim
omit hG in
/-- xs[::-1] -/
theorem se_rsl (hk : ∀ X, G X → X.K = K) {k : Nat} {p1 p2 p3 : Pos} (ha : SE cls G W ea a) :
    SE cls G W (.Subscript ea (.Slice none none (some (.UnaryOp .USub (.Constant (.int 1) k p1) p2)) p3) pos) (fun env st => (a env st).b1 fun x st1 => match lstOf st1 x with
    | some xs => new (.lst xs.reverse) st1
    | none => .stk) := by
  intro env st as σ H Q h0 h1 hP; dsimp only at hP
  refine ⟨tRevL K (UE G ea), fun X hX => ?_, ha.go h0 h1 hP fun v st1 as1 w H1 p1 R1 S1 V1 hP1 => ?_⟩
  · rw [← hk X hX]
    exact pe_revL (pe_U hX)
  · split at hP1
    · rename_i xs e
      obtain ⟨l, ys, rfl, r, z⟩ := R1.lstOf V1 e
      exact ⟨l, ys, rfl, SqL.of z, fun p hp => hP1.newL R1 (Mi.P.reverse r) hp⟩
    · exact hP1.elim
/-- list(reversed(xs)) -/
theorem se_lrev (hmo : mo = .on false) (T : Tab P w K mg base cls Pg cf lv) {p2 q : Pos} (hs : isStar ea = false) (hg : S.sc.names.lookup ("list" : Str) = some .globalImplicit) (hg2 : S.sc.names.lookup ("reversed" : Str) = some .globalImplicit) (ha : SE cls G W ea a) :
    SE cls G W (.Call (.Name "list" p) [.Call (.Name "reversed" p2) [ea] [] q] [] pos) (fun env st => (a env st).b1 fun x st1 => match lstOf st1 x with
    | some xs => new (.lst xs.reverse) st1
    | none => .stk) := by
  intro env st as σ H Q h0 h1 hP; dsimp only at hP
  refine ⟨tListRev K (UE G ea), fun X hX => ?_, ha.go h0 h1 hP fun v st1 as1 w H1 p1 R1 S1 V1 hP1 => ?_⟩
  · have hm : X.mg "list" = none := by rw [(hG X hX).1.mg]; exact T.bi .list
    have hm2 : X.mg "reversed" = none := by rw [(hG X hX).1.mg]; exact T.bi .reversed
    rw [← (hG X hX).1.k]
    exact pe_listRev ((hG X hX).1.calm hmo) (gl_of hG hX hg) hm (gl_of hG hX hg2) hm2 (pe_U hX) (star_cons hs) (star_cons rfl)
  · split at hP1
    · rename_i xs e
      obtain ⟨l, ys, rfl, r, z⟩ := R1.lstOf V1 e
      exact ⟨l, ys, rfl, SqL.of z, fun p hp => hP1.newL R1 (Mi.P.reverse r) hp⟩
    · exact hP1.elim
/-- C.m(..): a class's function -/
theorem se_cm (T : Tab P w K mg base cls Pg cf lv) {c f : Str} (hs : noStar es = true) (hl : (apos.endLine == pos.line) = true) (hn : es.length < 30) (hg : S.sc.names.lookup c = some .globalImplicit) (hd : (c == ("__debug__" : Str)) = false) (hm : Pg.cm c m = some f) (ha : SA cls G W es a) :
    SE cls G W (.Call (.Attribute (.Name c p) m apos) es [] pos) (fun env st => (a env st).bs fun xs st1 => exE (cfm cf mo f xs st1) env) := by
  obtain ⟨F, ad, hF, hmc, hc, A⟩ := T.cm c m f hm
  obtain ⟨fd, Fok, Fb⟩ := A.ex
  intro env st as σ H Q h0 h1 hP; dsimp only at hP
  refine ⟨fun σ H Q => UA G es σ H fun ws H1 => ws.length ≤ F.ps.length ∧ F.ps.length ≤ ws.length + F.dfl.length ∧ spM cls cf mo f F.ps.length (ws ++ F.dfl.drop (ws.length + F.dfl.length - F.ps.length)) H1 Q (WE W σ), fun X hX => ?_, ?_⟩
  · have hgl := gl_of hG hX hg
    obtain ⟨g, tk⟩ := hG X hX
    refine ⟨fun pins s σ H Q I h => ?_⟩
    have hN : PE X (.Name c p) (tC (.ref (cls c))) := pe_glob hgl (by rw [g.mg]; exact hmc) rfl hd
    rw [← g.k] at hc
    refine PySem.W.methodCall_KW (pl := plainOf (.Name c p) X.env) (thn (hN.run pins s σ H (fun x H1 => x = .ref (cls c) ∧ H1 = H) I ⟨rfl, rfl⟩) fun u s1 ⟨x, H1, I1, rx, ex, eH⟩ => ?_) (meth_tree rfl hs hl hn)
    subst ex
    subst eH
    obtain rfl : u = Value.ref (cls c) := rx
    refine PySem.W.method_cls I1.kIn hc.ga (PySem.W.cls_value I1.kIn hc.rd hc.at_ rfl ?_)
    refine callWith_es hs (by rw [g.k]; exact A.kp) (pa_U hX) (I1.tok _) h fun ws H2 us s2 ⟨l1, l2, q⟩ I2 r => ?_
    obtain ⟨ds, d1, d2⟩ := Fb ws.length l1 l2
    exact run_fnT g tk Fok d2 d1 I2 r q
  · refine ha.go h0 h1 hP fun vs st1 as1 ws H1 p1 R1 S1 V1 hP1 => ?_
    have := spt_of T hF A R1 V1 (exE_pv hP1)
    rw [Mi.P.length V1] at this
    exact this
theorem se_bm {t : Mt} (hb : plainBase eo = true) (hs : noStar (ea :: es) = true) (hl : (apos.endLine == pos.line) = true) (hn : (ea :: es).length < 29) (ho : SE cls G W eo o) (ha : SA cls G W (ea :: es) a) :
    SE cls G W (.Call (.Attribute eo (mtN t) apos) (ea :: es) [] pos) (fun env st => (o env st).b1 fun x st1 => if bmTy t x st1 then (a env st1).bs fun xs st2 => bmD t x xs st2 else .stk) := by
  intro env st as σ H Q h0 h1 hP; dsimp only at hP
  have J := mt_info t
  refine ⟨tBM K (mtT t) (UM G (mtId t)) (UE G eo) (UA G (ea :: es)), fun X hX => ?_, ho.go h0 h1 hP fun v st1 as1 w H1 p1 R1 S1 V1 hP1 => ?_⟩
  · obtain ⟨n1, n2⟩ := noStar_cons hs
    rw [← (hG X hX).1.k]
    refine pe_bm J.pa J.slot J.ty (mt_U hX) (pe_U hX) (pa_U hX) (base_ok hb) ?_ hl (star_cons n1) (backTo_any n2)
    rw [backTo_all hs]
    show (true && true && decide ((ea :: es).length + 0 + 0 < 30)) = true
    simp only [Bool.true_and]
    exact decide_eq_true (by omega)
  · split at hP1
    · rename_i ht
      refine ⟨bmTy_ok R1 V1 ht, ha.go R1 S1 hP1 fun vs st2 as2 ws H2 p2 R2 S2 V2 hP2 => bmD_ok hG R2 (V1.mono p2) V2 hP2⟩
    · exact hP1.elim
theorem se_bm0 {t : Mt} (hb : plainBase eo = true) (hl : (apos.endLine == pos.line) = true) (ho : SE cls G W eo o) :
    SE cls G W (.Call (.Attribute eo (mtN t) apos) [] [] pos) (fun env st => (o env st).b1 fun x st1 => if bmTy t x st1 then bmD t x [] st1 else .stk) := by
  intro env st as σ H Q h0 h1 hP; dsimp only at hP
  have J := mt_info t
  refine ⟨tBM0 K (mtT t) (UM G (mtId t)) (UE G eo), fun X hX => ?_, ho.go h0 h1 hP fun v st1 as1 w H1 p1 R1 S1 V1 hP1 => ?_⟩
  · rw [← (hG X hX).1.k]
    exact pe_bm0 J.pa J.slot J.ty (mt_U hX) (pe_U hX) (base_ok hb) hl
  · split at hP1
    · rename_i ht
      exact ⟨bmTy_ok R1 V1 ht, bmD_ok hG R1 V1 .nil hP1⟩
    · exact hP1.elim
end
end
end Mi
set_option maxHeartbeats 400000
/-! Mi: built-ins by name, classes made, targets, walks, comprehensions. -/
namespace Mi
open PySem PySem.Spec PyProof.Rows L2 L2H

/-! ### wipe -/
theorem wipe_in {σ : L2.St} {i : Nat} : ∀ {vs : List Nat}, i ∈ vs → i < σ.length → (wipe σ vs)[i]? = some none
  | v :: vs, h, hl => by
    show ((wipe σ vs).set v none)[i]? = some none
    by_cases e : i = v
    · subst e
      exact List.getElem?_set_self (by rw [wipe_length]; exact hl)
    · rw [List.getElem?_set_ne (Ne.symm e)]
      exact wipe_in (by
        rcases List.mem_cons.mp h with z | z
        · exact absurd z e
        · exact z) hl
theorem wipe_set {σ : L2.St} {i : Nat} {o : Option V} {vs : List Nat} (h : i ∈ vs) : wipe (σ.set i o) vs = wipe σ vs := by
  apply List.ext_getElem?
  intro j
  by_cases hj : j ∈ vs
  · by_cases hl : j < σ.length
    · rw [wipe_in hj hl, wipe_in hj (by rw [List.length_set]; exact hl)]
    · rw [List.getElem?_eq_none_iff.mpr (by rw [wipe_length, List.length_set]; omega), List.getElem?_eq_none_iff.mpr (by rw [wipe_length]; omega)]
  · rw [wipe_out hj, wipe_out hj, List.getElem?_set_ne (show i ≠ j from by intro e; subst e; exact hj h)]
theorem wipe_wipe {σ : L2.St} {vs : List Nat} : wipe (wipe σ vs) vs = wipe σ vs := by
  apply List.ext_getElem?
  intro j
  by_cases hj : j ∈ vs
  · by_cases hl : j < σ.length
    · rw [wipe_in hj hl, wipe_in hj (by rw [wipe_length]; exact hl)]
    · rw [List.getElem?_eq_none_iff.mpr (by rw [wipe_length, wipe_length]; omega), List.getElem?_eq_none_iff.mpr (by rw [wipe_length]; omega)]
  · rw [wipe_out hj]

section
variable {P : Program} {w : World} {K : PySem.W.Frag} {mg : Str → Option Value} {base : Heap} {cls : Cz} {Pg : Prog} {cf : Bool → Str → List V → Store → R} {lv : Nat} {S : Sc} {mo : Mo} {G : Cx → Prop} {W : WX}
variable {e ea eb ec eo tgE iter : Expr} {es : List Expr} {a b c o : Ev → Store → R} {x m : Str} {pos p apos : Pos}
variable {as : List Addr} {st : Store} {H : Hp} {Q : VK} {env : Ev} {σ : L2.St}
section
variable (hG : ∀ X, G X → GX P w K mg base cls (lv + 1) S mo X ∧ Tk cls.bad X W)
include hG
/-! ### built-ins by name -/
theorem se_bif (T : Tab P w K mg base cls Pg cf lv) {f : Bi} (hs : noStar (ea :: es) = true) (hg : S.sc.names.lookup (biN f) = some .globalImplicit) (ha : SA cls G W (ea :: es) a) :
    SE cls G W (.Call (.Name (biN f) p) (ea :: es) [] pos) (fun env st => (a env st).bs fun xs st1 => bifD mo f xs st1) := by
  intro env st as σ H Q h0 h1 hP; dsimp only at hP
  obtain ⟨n1, n2⟩ := noStar_cons hs
  refine ⟨tCB (UC G (biV f)) (UA G (ea :: es)), fun X hX => ?_, ha.go h0 h1 hP fun vs st1 as1 ws H1 p1 R1 S1 V1 hP1 => bif_ok (hGB hG) R1 V1 hP1⟩
  have hgl := gl_of hG hX hg
  have hm : X.mg (biN f) = none := by rw [(hG X hX).1.mg]; exact T.bi f
  cases f
  · exact pe_callB (call_U hX) hgl hm (by kernel_rfl) (pa_U hX) (by decide +kernel) (by decide +kernel) (star_cons n1) (backTo_any n2)
  · exact pe_callTy (call_U hX) hgl hm (by kernel_rfl) (pa_U hX) (by decide +kernel) (by decide +kernel) (star_cons n1) (backTo_any n2)
  · exact pe_callB (call_U hX) hgl hm (by kernel_rfl) (pa_U hX) (by decide +kernel) (by decide +kernel) (star_cons n1) (backTo_any n2)
  · exact pe_callB (call_U hX) hgl hm (by kernel_rfl) (pa_U hX) (by decide +kernel) (by decide +kernel) (star_cons n1) (backTo_any n2)
  · exact pe_callTy (call_U hX) hgl hm (by kernel_rfl) (pa_U hX) (by decide +kernel) (by decide +kernel) (star_cons n1) (backTo_any n2)
  · exact pe_callTy (call_U hX) hgl hm (by kernel_rfl) (pa_U hX) (by decide +kernel) (by decide +kernel) (star_cons n1) (backTo_any n2)
  · exact pe_callB (call_U hX) hgl hm (by kernel_rfl) (pa_U hX) (by decide +kernel) (by decide +kernel) (star_cons n1) (backTo_any n2)
  · exact pe_callB (call_U hX) hgl hm (by kernel_rfl) (pa_U hX) (by decide +kernel) (by decide +kernel) (star_cons n1) (backTo_any n2)
  · exact pe_callTy (call_U hX) hgl hm (by kernel_rfl) (pa_U hX) (by decide +kernel) (by decide +kernel) (star_cons n1) (backTo_any n2)
  · exact pe_callTy (call_U hX) hgl hm (by kernel_rfl) (pa_U hX) (by decide +kernel) (by decide +kernel) (star_cons n1) (backTo_any n2)
omit hG in
def tyS : Ty → String
  | .int => "int"
  | .str => "str"
  | .bool => "bool"
  | .list => "list"
  | .tuple => "tuple"
  | .dict => "dict"
  | .none => "NoneType"
omit hG in
def tyN : Ty → Str
  | .int => "int"
  | .str => "str"
  | .bool => "bool"
  | .list => "list"
  | .tuple => "tuple"
  | .dict => "dict"
  | .none => "NoneType"
omit hG in
theorem ty_rel {v x : V} {t : Ty} (R : Rel cls as st H) (hx : VR as v x) (h : isTy v st = some t) : TyX K H x (.type (tyS t)) := by
  unfold isTy at h
  split at h
  · cases hx; cases h; exact .base .non
  · cases hx; cases h; exact .base (.bl _)
  · cases hx; cases h; exact .base (.int _)
  · cases hx; cases h; exact .base (.str _)
  · split at h
    · rename_i e
      cases h
      obtain ⟨a, ys, rfl, _, _, z⟩ := R.lst hx e
      exact .base (.lst z)
    · rename_i e
      cases h
      obtain ⟨a, ys, rfl, _, _, z⟩ := R.tup hx e
      exact .base (.tup z)
    · rename_i e
      cases h
      obtain ⟨a, ys, rfl, _, _, z⟩ := R.dK hx e
      exact .base (.dK z)
    · cases h
  · cases h
omit hG in
theorem kit_all (t c : Ty) (hc : c ≠ .none) : PySem.W.kitOne K (.type (tyS t)) (.type (tyS c)) = some (subTy t c) := by
  cases t <;> cases c <;> first | exact kit_ty (by decide +kernel) | exact absurd rfl hc
theorem se_isi (T : Tab P w K mg base cls Pg cf lv) {t : Ty} {p2 : Pos} (hs : isStar ea = false) (hg : S.sc.names.lookup ("isinstance" : Str) = some .globalImplicit) (hg2 : S.sc.names.lookup (tyN t) = some .globalImplicit) (ht : t ≠ .none) (hty : mg (tyN t) = none) (ha : SE cls G W ea a) :
    SE cls G W (.Call (.Name "isinstance" p) [ea, .Name (tyN t) p2] [] pos) (fun env st => (a env st).b1 fun x st1 => match isTy x st1 with
    | some t' => one (.bl (subTy t' t)) st1
    | none => .stk) := by
  intro env st as σ H Q h0 h1 hP; dsimp only at hP
  refine ⟨tCB (rIsi K) (tCons (UE G ea) (tCons (tC (.ty (tyS t))) tNil)), fun X hX => ?_, ha.go h0 h1 hP fun v st1 as1 w H1 p1 R1 S1 V1 hP1 => ?_⟩
  · have hgl := gl_of hG hX hg
    have hgl2 := gl_of hG hX hg2
    have hm : X.mg "isinstance" = none := by rw [(hG X hX).1.mg]; exact T.isi
    have hm2 : X.mg (tyN t) = none := by rw [(hG X hX).1.mg]; exact hty
    rw [← (hG X hX).1.k]
    refine pe_callB call_isi hgl hm (by kernel_rfl) (pa_cons (pe_U hX) (pa_cons ?_ pa_nil) (star_cons hs)) (by decide +kernel) (by decide +kernel) (star_cons hs) rfl
    cases t
    · exact pe_bltn hgl2 hm2 (u := .type "int") (by kernel_rfl) rfl (by decide +kernel) (by decide +kernel)
    · exact pe_bltn hgl2 hm2 (u := .type "str") (by kernel_rfl) rfl (by decide +kernel) (by decide +kernel)
    · exact pe_bltn hgl2 hm2 (u := .type "bool") (by kernel_rfl) rfl (by decide +kernel) (by decide +kernel)
    · exact pe_bltn hgl2 hm2 (u := .type "list") (by kernel_rfl) rfl (by decide +kernel) (by decide +kernel)
    · exact pe_bltn hgl2 hm2 (u := .type "tuple") (by kernel_rfl) rfl (by decide +kernel) (by decide +kernel)
    · exact pe_bltn hgl2 hm2 (u := .type "dict") (by kernel_rfl) rfl (by decide +kernel) (by decide +kernel)
    · exact absurd rfl ht
  · split at hP1
    · rename_i t' e
      exact ⟨w, .ty (tyS t), .type (tyS t'), .type (tyS t), _, rfl, .ty _, ty_rel R1 V1 e, kit_all t' t ht, hP1.got R1 rfl⟩
    · exact hP1.elim
/-! ### a class is called -/
omit hG in
theorem run_makeU {xi : XI} {h : Bool} {bad : Value → Bool} {X : Cx} {CX : CXT} {k : Nat} {f C : Addr} {fd : FuncData} {ps : List Str} {sp : Sp} {dvs : List V} {ds : List Value} {E : XK} {pins : List (Addr × Obj)} {s : Shared} {us : List Value} {vs : List V} (M : Mk X.K C f) (F : FnU bad xi h X.prog X.w X.K X.mg X.base CX k f fd ps sp) (hr : RoomH (k + 1) X.A) (hm : MdX bad xi h X) (hb : Binds X.K fd ps ds) (hd : Vals dvs ds)
    (hx : PassesAt CX X σ E) (I : Inv X pins σ H s) (r : Vals vs us)
    (h : ∀ x dx, H x = none → H dx = none → dx ≠ x → sp (.ref x :: (vs ++ dvs)) (upd (upd H dx (.own x)) x (.ins C dx [])) (fun v H2 => v = .non ∧ Q (.ref x) H2) E) :
    wpAny (model X.prog X.w) X.A (call (.ref C) us) (EP X pins σ Q) X.xe s := by
  have hq := h (s.heap.objs.size + 1) s.heap.objs.size (I.hok.fresh (Nat.le_succ _)) (I.hok.fresh (Nat.le_refl _)) (Nat.ne_of_lt (Nat.lt_succ_self _))
  have I2 := Inv.made (C := C) I
  have r2 : Vals (V.ref (s.heap.objs.size + 1) :: (vs ++ dvs)) (Value.ref (s.heap.objs.size + 1) :: (us ++ ds)) := .cons rfl (r.append hd)
  have hl : (Value.ref (s.heap.objs.size + 1) :: us ++ ds).length = ps.length := by
    have e := r2.length
    rw [F.len _ _ _ _ hq] at e
    exact e.symm
  refine wpAny_call (make_map (f := f) I.kIn M.makes M.init (beq_iff_eq.mp M.fn) (codeAny_mono (F.run _ X.stack _ _ ⟨Value.ref (s.heap.objs.size + 1) :: us, []⟩ (Value.ref (s.heap.objs.size + 1) :: (us ++ ds)) _ _ E X.pn (roomH_make hr C us []) (hm.of_handled rfl) I2.pinsOk
    (I2.env0.make C us []) (hb _ (Value.ref (s.heap.objs.size + 1) :: us) I2.kIn hl) r2 hq) fun r s' hq' => ?_))
  cases r with
  | error e => exact hx pins _ _ e s' I2 hq'
  | ok fl =>
    cases fl with
    | ret u =>
      obtain ⟨v, H', I3, rv, ev, q3⟩ := I2.after hq'
      subst ev
      exact ⟨rv, ⟨V.ref (s.heap.objs.size + 1), H', I3, rfl, q3⟩⟩
    | next => exact False.elim hq'
    | brk => exact False.elim hq'
    | cont => exact False.elim hq'
omit hG in
/-- a new instance stands in the store -/
theorem Rel.pushIns (R : Rel cls as st H) {x dx : Addr} {c : Str} (hx : H x = none) (hd : H dx = none) (hne : dx ≠ x) : Rel cls (as ++ [x]) (st ++ [.ins c []]) (upd (upd H dx (.own x)) x (.ins (cls c) dx [])) :=
  (R.laid hd).push (by rw [upd_ne hne.symm]; exact hx) ⟨dx, [], .nil, upd_same⟩
theorem se_mk (T : Tab P w K mg base cls Pg cf lv) {c f : Str} (hs : noStar es = true) (hg : S.sc.names.lookup c = some .globalImplicit) (hd : (c == ("__debug__" : Str)) = false) (hmd : Pg.made c = true) (hm : Pg.meth c "__init__" = some f) (ha : SA cls G W es a) :
    SE cls G W (.Call (.Name c p) es [] pos) (fun env st => (a env st).bs fun xs st1 => (exE (cfm cf mo f (.ref st1.length :: xs) (st1 ++ [.ins c []])) env).b1 fun v st2 => match v with
      | .non => one (.ref st1.length) st2
      | _ => .stk) := by
  obtain ⟨F, ad, hF, hmg, M, A⟩ := T.made c f hm hmd
  obtain ⟨fd, Fok, Fb⟩ := A.ex
  intro env st as σ H Q h0 h1 hP; dsimp only at hP
  refine ⟨fun σ H Q => UA G es σ H fun ws H1 => ∃ h, mo = .on h ∧ ws.length + 1 ≤ F.ps.length ∧ F.ps.length ≤ ws.length + 1 + F.dfl.length ∧ ∀ x dx, H1 x = none → H1 dx = none → dx ≠ x → spI cls (cf h) f F.ps.length (.ref x :: (ws ++ F.dfl.drop (ws.length + 1 + F.dfl.length - F.ps.length))) (upd (upd H1 dx (.own x)) x (.ins (cls c) dx [])) (fun v H2 => v = .non ∧ Q (.ref x) H2) (WE W σ), fun X hX => ?_, ?_⟩
  · have hgl := gl_of hG hX hg
    obtain ⟨g, tk⟩ := hG X hX
    refine ⟨fun pins s σ H Q I h => ?_⟩
    refine wpAny_Call_Name_kw (ld_glob I hgl (by rw [g.mg]; exact hmg) ?_ hd)
    refine callWith_es hs (by rw [g.k]; exact M.kp) (pa_U hX) I h fun ws H1 us s1 ⟨hh, emo, l1, l2, q⟩ I1 r => ?_
    subst emo
    obtain ⟨ds, d1, d2⟩ := Fb (ws.length + 1) l1 l2
    have md := g.md
    have rm := g.room
    obtain rfl := g.prog
    obtain rfl := g.w
    obtain rfl := g.k
    obtain rfl := g.mg
    obtain rfl := g.base
    exact run_makeU M (Fok hh cls.xi) rm md d2 d1 (passAtB tk σ) I1 r q
  · refine ha.go h0 h1 hP fun vs st1 as1 ws H1 p1 R1 S1 V1 hP1 => ?_
    match mo, hP1 with
    | .ine, hP1 => exact hP1.elim
    | .on hh, hP1 =>
    have hP1 : PV cls as1 ((exE (cf hh f (.ref st1.length :: vs) (st1 ++ [.ins c []])) env).b1 fun v st2 => match v with
      | .non => one (.ref st1.length) st2
      | _ => .stk) Q (fun c d H' => W c d σ H') := hP1
    have hlen : vs.length + 1 ≤ F.ps.length ∧ F.ps.length ≤ vs.length + 1 + F.dfl.length := by
      by_cases hl : (V.ref st1.length :: vs).length ≤ F.ps.length ∧ F.ps.length ≤ (V.ref st1.length :: vs).length + F.dfl.length
      · exact hl
      · rw [(T.full hh f F (V.ref st1.length :: vs) (st1 ++ [IO.ins c []]) hF).2 hl] at hP1
        exact hP1.elim
    rw [Mi.P.length V1] at hlen
    refine ⟨hh, rfl, hlen.1, hlen.2, fun x dx hx hdx hne => ?_⟩
    have R2 : Rel cls (as1 ++ [x]) (st1 ++ [.ins c []]) (upd (upd H1 dx (.own x)) x (.ins (cls c) dx [])) := R1.pushIns hx hdx hne
    have V2 : VRs (as1 ++ [x]) (.ref st1.length :: vs) (.ref x :: ws) := .cons (VR.new R1) (VRs.mono pre_snoc V1)
    have hP2 : PV cls (as1 ++ [x]) (cf hh f (.ref st1.length :: vs) (st1 ++ [.ins c []])) (fun v H2 => v = .non ∧ Q (.ref x) H2) (WE W σ) := by
      cases q : cf hh f (.ref st1.length :: vs) (st1 ++ [.ins c []]) with
      | val us st2 =>
        rw [q] at hP1
        match us, hP1 with
        | [u], hP1 =>
          cases u with
          | non => exact fun as' w' H' p' R' V' => ⟨V', hP1 as' (.ref x) H' (pre_snoc.trans p') R' ((VR.new R1).mono p')⟩
          | _ => exact hP1.elim
        | [], hP1 => exact hP1.elim
        | _ :: _ :: _, hP1 => exact hP1.elim
      | exc c fs en st2 =>
        rw [q] at hP1
        exact fun as' H' cv d p' => hP1 as' H' cv d (pre_snoc.trans p')
      | nxt a b => rw [q] at hP1; exact hP1.elim
      | ret a b => rw [q] at hP1; exact hP1.elim
      | stk => rw [q] at hP1; exact hP1.elim
    have h3 := spt_of (mo := .on hh) T hF A R2 V2 hP2
    rw [List.length_cons, Mi.P.length V1] at h3
    obtain ⟨_, _, h4, e4, h5⟩ := h3
    cases e4
    exact h5
end

/-! ### targets -/
def tgSlots : Tg → List Nat
  | .n i => [i]
  | .t is => is
/-- a target as the text has it -/
def tgB (N own : List Str) : Tg → Expr → Bool
  | .n i, .Name x _ => decide (N[i]? = some x) && decide (x ∈ own)
  | .t is, .Tuple es _ _ => tgBs is es
  | _, _ => false
where tgBs : List Nat → List Expr → Bool
  | [], [] => true
  | i :: is, .Name x _ :: es => decide (N[i]? = some x) && (decide (x ∈ own) && tgBs is es)
  | _, _ => false
def gsOf : List Nat → TGs
  | [] => gNil
  | i :: is => gCons (gName i) (gsOf is)
section
variable (hG : ∀ X, G X → GX P w K mg base cls (lv + 1) S mo X ∧ Tk cls.bad X W)
include hG
omit hG in
theorem tgBs_cons {i : Nat} {is : List Nat} {e : Expr} {es : List Expr} {N own : List Str} (h : tgB.tgBs N own (i :: is) (e :: es) = true) : ∃ x p, e = .Name x p ∧ N[i]? = some x ∧ x ∈ own ∧ tgB.tgBs N own is es = true := by
  unfold tgB.tgBs at h
  split at h
  · rename_i h1 h2
    cases h1
  · rename_i i' is' x p es' h1 h2
    cases h1
    cases h2
    obtain ⟨h1, h2⟩ := Bool.and_eq_true_iff.mp h
    obtain ⟨h3, h4⟩ := Bool.and_eq_true_iff.mp h2
    exact ⟨x, p, rfl, of_decide_eq_true h1, of_decide_eq_true h3, h4⟩
  · cases h
theorem pgs_of {X : Cx} (hX : G X) : ∀ (is : List Nat) (es : List Expr), tgB.tgBs S.N S.own is es = true → PGs X es (gsOf is) := by
  intro is
  induction is with
  | nil =>
    intro es h
    cases es with
    | nil => exact pgs_nil
    | cons e es => cases h
  | cons i is ih =>
    intro es h
    cases es with
    | nil => cases h
    | cons e es =>
      obtain ⟨x, p, rfl, h1, h3, h4⟩ := tgBs_cons h
      obtain ⟨o1, o2⟩ := (hG X hX).1.own x h3
      exact pgs_cons (pg_name (by rw [(hG X hX).1.n]; exact (hG X hX).1.nd) (by rw [(hG X hX).1.n]; exact h1) o1 o2) (ih es h4) rfl
omit hG in
theorem each_len {env : Env} {N own : List Str} : ∀ (is : List Nat) (es : List Expr), tgB.tgBs N own is es = true → (assignEach es env).length = is.length ∧ (assignEach es env).findIdx? (·.1) = none := by
  intro is
  induction is with
  | nil =>
    intro es h
    cases es with
    | nil => exact ⟨rfl, rfl⟩
    | cons e es => cases h
  | cons i is ih =>
    intro es h
    cases es with
    | nil => cases h
    | cons e es =>
      obtain ⟨x, p, rfl, h1, h3, h4⟩ := tgBs_cons h
      obtain ⟨r1, r2⟩ := ih es h4
      refine ⟨by show (assignEach es env).length + 1 = is.length + 1; rw [r1], ?_⟩
      show ((false, assign (.Name x p) env) :: assignEach es env).findIdx? (·.1) = none
      rw [List.findIdx?_cons, r2]
      rfl
omit hG in
theorem gs_run {Q : L2.St → Hp → Prop} {env' : Ev} : ∀ (is : List Nat) (vs ys : List V) (env : Ev) (σ : L2.St), setMany is vs env = some env' → VRs as vs ys → SR as env σ →
    (∀ σ', SR as env' σ' → (∀ ws, (∀ j ∈ is, j ∈ ws) → wipe σ' ws = wipe σ ws) → Q σ' H) → gsOf is ys σ H Q := by
  intro is
  induction is with
  | nil =>
    intro vs ys env σ h r s k
    cases r with
    | nil => exact ⟨rfl, k σ (by rw [← Option.some.inj h]; exact s) fun _ _ => rfl⟩
    | cons _ _ => cases h
  | cons i is ih =>
    intro vs ys env σ h r s k
    cases r with
    | nil => cases h
    | cons r rs =>
      rename_i v y vs ys
      have h2 : (if i < env.length then setMany is vs (env.set i (some v)) else none) = some env' := h
      split at h2
      · refine ⟨y, _, rfl, ?_⟩
        exact ih vs ys _ _ h2 rs (s.set r i) fun σ' s' hw => k σ' s' fun ws hws => by
          rw [hw ws fun j hj => hws j (List.mem_cons_of_mem _ hj)]
          exact wipe_set (hws i List.mem_cons_self)
      · cases h2
/-- a target is stored -/
theorem ug_of (hq : mo.q = true) {tg : Tg} (hb : tgB S.N S.own tg tgE = true) {v y : V} {env' : Ev} (h0 : Rel cls as st H) (h1 : SR as env σ) (hv : VR as v y) (hs : setTg tg v env st = some env') {Q : L2.St → Hp → Prop}
    (k : ∀ σ', SR as env' σ' → (∀ ws, (∀ j ∈ tgSlots tg, j ∈ ws) → wipe σ' ws = wipe σ ws) → Q σ' H) : UG G tgE y σ H Q := by
  cases tg with
  | n i =>
    cases tgE <;> try (cases hb; done)
    rename_i x p
    obtain ⟨b1, b2⟩ := Bool.and_eq_true_iff.mp (show (decide (S.N[i]? = some x) && decide (x ∈ S.own)) = true from hb)
    refine ⟨gName i, fun X hX => ?_, ?_⟩
    · obtain ⟨o1, o2⟩ := (hG X hX).1.own x (of_decide_eq_true b2)
      exact pg_name (by rw [(hG X hX).1.n]; exact (hG X hX).1.nd) (by rw [(hG X hX).1.n]; exact of_decide_eq_true b1) o1 o2
    · unfold setTg at hs
      dsimp only at hs
      split at hs
      · rw [← Option.some.inj hs] at k
        exact k _ (h1.set hv i) fun ws hws => wipe_set (hws i List.mem_cons_self)
      · cases hs
  | t is =>
    cases tgE <;> try (cases hb; done)
    rename_i es kk p
    have b1 : tgB.tgBs S.N S.own is es = true := hb
    refine ⟨gTup K is.length (gsOf is), fun X hX => ?_, ?_⟩
    · obtain ⟨r1, r2⟩ := each_len (env := X.env) is es b1
      rw [← (hG X hX).1.k]
      exact pg_tupU ((hG X hX).1.q hq) (pgs_of hG hX is es b1) r1 r2
    · unfold setTg at hs
      dsimp only at hs
      split at hs
      · split at hs
        · rename_i p _ xs e
          have h2 := hs
          obtain ⟨a, ys, rfl, _, r, z⟩ := h0.tup hv e
          refine ⟨a, ys, rfl, SqT.of z, ?_, gs_run is xs ys env σ h2 r h1 k⟩
          have : ∀ {is : List Nat} {xs : List V} {env : Ev}, setMany is xs env = some env' → xs.length = is.length := by
            intro is
            induction is with
            | nil =>
              intro xs env h
              cases xs with
              | nil => rfl
              | cons _ _ => cases h
            | cons i is ih =>
              intro xs env h
              cases xs with
              | nil => cases h
              | cons x xs =>
                have h3 : (if i < env.length then setMany is xs (env.set i (some x)) else none) = some env' := h
                split at h3
                · rw [List.length_cons, List.length_cons, ih h3]
                · cases h3
          rw [← Mi.P.length r]
          exact this h2
        · cases hs
      · cases hs
end
end
end Mi
set_option maxHeartbeats 400000
/-! Mi: walks, loops, comprehensions, statements. -/
namespace Mi
open PySem PySem.Spec PyProof.Rows L2 L2H

section
variable {P : Program} {w : World} {K : PySem.W.Frag} {mg : Str → Option Value} {base : Heap} {cls : Cz} {Pg : Prog} {cf : Bool → Str → List V → Store → R} {lv : Nat} {S : Sc} {mo : Mo} {G : Cx → Prop} {W : WX}
variable {e ea eb ec eo tgE iter : Expr} {es : List Expr} {a b c o : Ev → Store → R} {x m : Str} {pos p apos : Pos}
variable {as : List Addr} {st : Store} {H : Hp} {Q : VK} {env : Ev} {σ : L2.St}

/-! ### walks -/
/-- J gives what cur gives -/
def ItOk (cls : Cz) (as0 : List Addr) (k : Ik) (vs : List V) (J : It) : Prop := ∀ i st as H, as0 <+: as → Rel cls as st H →
  (cur k vs i st = some none → J.stop i H) ∧
  ∀ x st', cur k vs i st = some (some (x, st')) → J.go i H ∧ ∀ y H', J.yld i H y H' → ∃ as', as <+: as' ∧ Rel cls as' st' H' ∧ VR as' x y
def PI' (cls : Cz) (as : List Addr) (k : Ik) (r : R) (Q : It → Hp → Prop) (X : XK) : Prop := match r with
  | .val vs st' => cur k vs 0 st' ≠ none ∧ ∀ as' H' J, as <+: as' → Rel cls as' st' H' → ItOk cls as' k vs J → Q J H'
  | .exc c fs _ st' => ∀ as' H' cv d, as <+: as' → Rel cls as' st' H' → XR cls as' st' c fs cv d H' → X cv d H'
  | _ => False
def SI (cls : Cz) (G : Cx → Prop) (W : WX) (k : Ik) (tg iter : Expr) (f : Ev → Store → R) : Prop := ∀ env st as σ H (Q : It → Hp → Prop), Rel cls as st H → SR as env σ → PI' cls as k (f env st) Q (fun c d H' => W c d σ H') → UI G tg iter σ H Q

theorem nth_none {α : Type} {xs : List α} {i : Nat} {f : α → V × Store} (h : nth xs i f = some none) : xs[i]? = none := by
  unfold nth at h
  split at h
  · cases h
  · assumption
theorem nth_some {α : Type} {xs : List α} {i : Nat} {f : α → V × Store} {r : V × Store} (h : nth xs i f = some (some r)) : ∃ x, xs[i]? = some x ∧ r = f x := by
  unfold nth at h
  split at h
  · exact ⟨_, by assumption, (Option.some.inj (Option.some.inj h)).symm⟩
  · cases h
/-- the items of a list that is walked -/
theorem lstk_items {p : Nat} {i : Nat} {r : Option (V × Store)} (h : cur .lstk [.ref p] i st = some r) : ∃ xs, (st[p]? = some (.lst xs) ∨ st[p]? = some (.fro xs)) ∧ nth xs i (fun x => (x, st)) = some r := by
  unfold cur at h
  dsimp only at h
  split at h
  · exact ⟨_, .inl (by assumption), h⟩
  · exact ⟨_, .inr (by assumption), h⟩
  · cases h
theorem lstk_at {p : Nat} {ad : Addr} {as' : List Addr} {xs : List V} (R : Rel cls as' st H) (hv : VR as' (.ref p) (.ref ad)) (h : st[p]? = some (.lst xs) ∨ st[p]? = some (.fro xs)) : ∃ ys, VRs as' xs ys ∧ SqL K H ad ys := by
  rcases h with h | h
  · obtain ⟨a, zs, ea, _, r, z⟩ := R.lst hv h
    cases ea
    exact ⟨zs, r, SqL.of z⟩
  · obtain ⟨a, zs, ea, _, r, z⟩ := R.fro hv h
    cases ea
    exact ⟨zs, r, .inl z⟩
theorem itok_list {p : Nat} {ad : Addr} (hp : as[p]? = some ad) : ItOk cls as .lstk [.ref p] (Itl K ad) := fun i st as' H hpre R => by
  have hv : VR as' (.ref p) (.ref ad) := ⟨ad, pre_get hpre hp, rfl⟩
  refine ⟨fun h => ?_, fun x st' h => ?_⟩
  · obtain ⟨xs, q, n⟩ := lstk_items h
    obtain ⟨ys, r, z⟩ := lstk_at (K := K) R hv q
    refine ⟨ys, z, ?_⟩
    rw [← Mi.P.length r]
    exact List.getElem?_eq_none_iff.mp (nth_none n)
  · obtain ⟨xs, q, n⟩ := lstk_items h
    obtain ⟨ys, r, z⟩ := lstk_at (K := K) R hv q
    obtain ⟨x', q1, q2⟩ := nth_some n
    cases q2
    obtain ⟨y', q3, q4⟩ := Mi.P.get r q1
    refine ⟨⟨ys, y', z, q3⟩, fun y H' hy => ?_⟩
    obtain ⟨rfl, hy⟩ := hy
    have e := (hy ys z).symm.trans q3
    cases e
    exact ⟨as', List.prefix_refl _, R, q4⟩
theorem itok_tup {p : Nat} {ad : Addr} (hp : as[p]? = some ad) : ItOk cls as .tupk [.ref p] (Itt K ad) := fun i st as' H hpre R => by
  have hv : VR as' (.ref p) (.ref ad) := ⟨ad, pre_get hpre hp, rfl⟩
  have key : ∀ {r : Option (V × Store)}, cur .tupk [.ref p] i st = some r → ∃ xs, st[p]? = some (.tup xs) ∧ nth xs i (fun x => (x, st)) = some r := fun {r} h => by
    unfold cur at h
    dsimp only at h
    split at h
    · exact ⟨_, by assumption, h⟩
    · cases h
  refine ⟨fun h => ?_, fun x st' h => ?_⟩
  · obtain ⟨xs, q, n⟩ := key h
    obtain ⟨a, ys, ea, _, r, z⟩ := R.tup hv q
    cases ea
    refine ⟨ys, SqT.of z, ?_⟩
    rw [← Mi.P.length r]
    exact List.getElem?_eq_none_iff.mp (nth_none n)
  · obtain ⟨xs, q, n⟩ := key h
    obtain ⟨a, ys, ea, _, r, z⟩ := R.tup hv q
    cases ea
    obtain ⟨x', q1, q2⟩ := nth_some n
    cases q2
    obtain ⟨y', q3, q4⟩ := Mi.P.get r q1
    refine ⟨⟨ys, y', SqT.of z, q3⟩, fun y H' hy => ?_⟩
    obtain ⟨rfl, hy⟩ := hy
    have e := (hy ys (SqT.of z)).symm.trans q3
    cases e
    exact ⟨as', List.prefix_refl _, R, q4⟩
theorem itok_str {s : Str} : ItOk cls as .strk [.str s] (Its s) := fun i st as' H hpre R => by
  refine ⟨fun h => ?_, fun x st' h => ?_⟩
  · have n := nth_none (show nth s.cps.toList i (fun c => (V.str ⟨#[c]⟩, st)) = some none from h)
    have := List.getElem?_eq_none_iff.mp n
    show s.cps.size ≤ i
    simpa using this
  · obtain ⟨c, q1, q2⟩ := nth_some (show nth s.cps.toList i (fun c => (V.str ⟨#[c]⟩, st)) = some (some (x, st')) from h)
    cases q2
    have hl := (List.getElem?_eq_some_iff.mp q1).1
    refine ⟨by show i < s.cps.size; simpa using hl, fun y H' hy => ?_⟩
    obtain ⟨rfl, c', e1, rfl⟩ := hy
    have e2 : some c = some c' := by
      rw [← e1, ← q1]
      simp
    cases e2
    exact ⟨as', List.prefix_refl _, R, rfl⟩
theorem itok_rng1 {n : Int} : ItOk cls as .rng1 [.int n] (Itc 0 1 n.toNat) := fun i st as' H hpre R => by
  refine ⟨fun h => ?_, fun x st' h => ?_⟩
  · unfold cur at h
    dsimp only at h
    split at h
    · split at h
      · cases h
      · show n.toNat ≤ i
        omega
    · cases h
  · unfold cur at h
    dsimp only at h
    split at h
    · split at h
      · rename_i hi
        cases h
        refine ⟨hi, fun y H' hy => ?_⟩
        obtain ⟨rfl, rfl⟩ := hy
        exact ⟨as', List.prefix_refl _, R, by show V.int (0 + (i : Int) * 1) = V.int i; rw [Int.zero_add, Int.mul_one]⟩
      · cases h
    · cases h
theorem itok_rng2 {n k : Int} : ItOk cls as .rng2 [.int n, .int k] (Itc n 1 (k - n).toNat) := fun i st as' H hpre R => by
  refine ⟨fun h => ?_, fun x st' h => ?_⟩
  · unfold cur at h
    dsimp only at h
    split at h
    · split at h
      · cases h
      · show (k - n).toNat ≤ i
        omega
    · cases h
  · unfold cur at h
    dsimp only at h
    split at h
    · split at h
      · rename_i hi
        cases h
        refine ⟨hi, fun y H' hy => ?_⟩
        obtain ⟨rfl, rfl⟩ := hy
        exact ⟨as', List.prefix_refl _, R, by show V.int (n + (i : Int) * 1) = V.int (n + i); rw [Int.mul_one]⟩
      · cases h
    · cases h

theorem itok_rngd {n k c : Int} : ItOk cls as .rngd [.int n, .int k, .int c] (Itc n (-1) (n - k).toNat) := fun i st as' H hpre R => by
  refine ⟨fun h => ?_, fun x st' h => ?_⟩
  · unfold cur at h
    dsimp only at h
    split at h
    · split at h
      · cases h
      · show (n - k).toNat ≤ i
        omega
    · cases h
  · unfold cur at h
    dsimp only at h
    split at h
    · split at h
      · rename_i hi
        cases h
        refine ⟨hi, fun y H' hy => ?_⟩
        obtain ⟨rfl, rfl⟩ := hy
        exact ⟨as', List.prefix_refl _, R, rfl⟩
      · cases h
    · cases h
theorem itok_enum1 {p : Nat} {ad : Addr} {xs0 : List V} (hp : as[p]? = some ad) : ItOk cls as .enum1 [.ref p] (Ite1 K 1 ad) := fun i st as' H hpre R => by
  have hv : VR as' (.ref p) (.ref ad) := ⟨ad, pre_get hpre hp, rfl⟩
  have key : ∀ {r : Option (V × Store)}, cur .enum1 [.ref p] i st = some r → ∃ xs, st[p]? = some (.lst xs) ∧ nth xs i (fun x => (.ref st.length, st ++ [.tup [.int (1 + (i : Int)), x]])) = some r := fun {r} h => by
    unfold cur at h
    dsimp only at h
    split at h
    · exact ⟨_, by assumption, h⟩
    · cases h
  refine ⟨fun h => ?_, fun x st' h => ?_⟩
  · obtain ⟨xs, q, n⟩ := key h
    obtain ⟨a, ys, ea, _, r, z⟩ := R.lst hv q
    cases ea
    refine ⟨ys, SqL.of z, ?_⟩
    rw [← Mi.P.length r]
    exact List.getElem?_eq_none_iff.mp (nth_none n)
  · obtain ⟨xs, q, n⟩ := key h
    obtain ⟨a, ys, ea, _, r, z⟩ := R.lst hv q
    cases ea
    obtain ⟨x', q1, q2⟩ := nth_some n
    cases q2
    obtain ⟨y', q3, q4⟩ := Mi.P.get r q1
    refine ⟨⟨ys, y', SqL.of z, q3⟩, fun y H' hy => ?_⟩
    obtain ⟨T, z', rfl, hT, rfl, hy⟩ := hy
    have e := (hy ys (SqL.of z)).symm.trans q3
    cases e
    have hpf : as' <+: as' ++ [T] := List.prefix_append _ _
    exact ⟨as' ++ [T], hpf, R.push hT ⟨[.int (1 + (i : Int)), y'], .cons rfl (.cons (q4.mono hpf) .nil), upd_same⟩, ⟨T, by rw [← R.len]; simp, rfl⟩⟩
section
variable (hG : ∀ X, G X → GX P w K mg base cls (lv + 1) S mo X ∧ Tk cls.bad X W)
include hG
/-- a list, a tuple, a text -/
theorem si_seq (ha : SE cls G W iter a) : ∀ env st as σ H (Q : It → Hp → Prop), Rel cls as st H → SR as env σ → PI' cls as (rk .seq (match a env st with | .val vs _ => vs | _ => []) (match a env st with | .val _ st' => st' | _ => [])) (a env st) Q (fun c d H' => W c d σ H') → UI G tgE iter σ H Q := by
  intro env st as σ H Q h0 h1 hP
  cases q : a env st with
  | val vs st1 =>
    rw [q] at hP
    dsimp only at hP
    obtain ⟨hc, hk⟩ := hP
    match vs, hc, hk, q with
    | [], hc, hk, q => exact absurd rfl hc
    | v :: u :: t, hc, hk, q => exact absurd (by cases v <;> rfl) hc
    | [v], hc, hk, q =>
      cases v with
      | str s =>
        refine ⟨iStr (UE G iter), fun X hX => piU_str (pe_U hX), ha env st as σ H _ h0 h1 ?_⟩
        rw [q]
        intro as1 w1 H1 p1 R1 V1
        cases V1
        exact ⟨s, rfl, hk as1 H1 _ p1 R1 itok_str⟩
      | ref p =>
        have e3 : ∀ o, st1[p]? = o → rk .seq [.ref p] st1 = (match o with
          | some (.lst _) => .lstk
          | some (.fro _) => .lstk
          | some (.tup _) => .tupk
          | _ => .nok) := fun o e => by rw [← e] <;> rfl
        cases eo : st1[p]? with
        | none => rw [e3 _ eo] at hc; exact absurd rfl hc
        | some ob =>
          rw [e3 _ eo] at hc hk
          cases ob with
          | lst xs =>
            refine ⟨iList K (UE G iter), fun X hX => by rw [← (hG X hX).1.k]; exact piU_list (pe_U hX), ha env st as σ H _ h0 h1 ?_⟩
            rw [q]
            intro as1 w1 H1 p1 R1 V1
            obtain ⟨ad, ys, rfl, i1, r, z⟩ := R1.lst V1 eo
            exact ⟨ad, rfl, ⟨ys, SqL.of z⟩, hk as1 H1 _ p1 R1 (itok_list i1)⟩
          | fro xs =>
            refine ⟨iList K (UE G iter), fun X hX => by rw [← (hG X hX).1.k]; exact piU_list (pe_U hX), ha env st as σ H _ h0 h1 ?_⟩
            rw [q]
            intro as1 w1 H1 p1 R1 V1
            obtain ⟨ad, ys, rfl, i1, r, z⟩ := R1.fro V1 eo
            exact ⟨ad, rfl, ⟨ys, .inl z⟩, hk as1 H1 _ p1 R1 (itok_list i1)⟩
          | tup xs =>
            refine ⟨iTup K (UE G iter), fun X hX => by rw [← (hG X hX).1.k]; exact piU_tup (pe_U hX), ha env st as σ H _ h0 h1 ?_⟩
            rw [q]
            intro as1 w1 H1 p1 R1 V1
            obtain ⟨ad, ys, rfl, i1, r, z⟩ := R1.tup V1 eo
            exact ⟨ad, rfl, ⟨ys, SqT.of z⟩, hk as1 H1 _ p1 R1 (itok_tup i1)⟩
          | _ => exact absurd rfl hc
      | _ => exact absurd rfl hc
  | exc c fs en st1 =>
    rw [q] at hP
    refine ⟨iStr (UE G iter), fun X hX => piU_str (pe_U hX), ha env st as σ H _ h0 h1 ?_⟩
    rw [q]
    exact hP
  | nxt a b => rw [q] at hP; exact hP.elim
  | ret a b => rw [q] at hP; exact hP.elim
  | stk => rw [q] at hP; exact hP.elim
/-- range(n), range(n, k) -/
theorem si_rng1 (T : Tab P w K mg base cls Pg cf lv) (hs : isStar ea = false) (hg : S.sc.names.lookup ("range" : Str) = some .globalImplicit) (ha : SA cls G W [ea] a) :
    ∀ env st as σ H (Q : It → Hp → Prop), Rel cls as st H → SR as env σ → PI' cls as .rng1 (a env st) Q (fun c d H' => W c d σ H') → UI G tgE (.Call (.Name "range" p) [ea] [] pos) σ H Q := by
  intro env st as σ H Q h0 h1 hP
  refine ⟨iR1 (UA G [ea]), fun X hX => piU_range1 (gl_of hG hX hg) (by rw [(hG X hX).1.mg]; exact T.rng) (pa_U hX) (star_cons hs), ha env st as σ H _ h0 h1 ?_⟩
  cases q : a env st with
  | val vs st1 =>
    rw [q] at hP
    obtain ⟨hc, hk⟩ := hP
    intro as1 ws H1 p1 R1 V1
    match vs, hc, hk, V1 with
    | [], hc, hk, V1 => exact absurd rfl hc
    | v :: u :: t, hc, hk, V1 => exact absurd (by cases v <;> rfl) hc
    | [v], hc, hk, V1 =>
      obtain ⟨w1, rfl, r⟩ := vrs1 V1
      cases v with
      | int n =>
        cases r
        by_cases hb : -(2 ^ 62) ≤ n ∧ n < 2 ^ 62
        · exact ⟨n, rfl, hb.1, hb.2, hk as1 H1 _ p1 R1 itok_rng1⟩
        · exact absurd (by unfold cur; dsimp only; rw [if_neg hb]) hc
      | _ => exact absurd rfl hc
  | exc c fs en st1 =>
    rw [q] at hP
    exact hP
  | nxt a b => rw [q] at hP; exact hP.elim
  | ret a b => rw [q] at hP; exact hP.elim
  | stk => rw [q] at hP; exact hP.elim
theorem si_rng2 (T : Tab P w K mg base cls Pg cf lv) (hs : isStar ea = false) (hs2 : isStar eb = false) (hg : S.sc.names.lookup ("range" : Str) = some .globalImplicit) (ha : SA cls G W [ea, eb] a) :
    ∀ env st as σ H (Q : It → Hp → Prop), Rel cls as st H → SR as env σ → PI' cls as .rng2 (a env st) Q (fun c d H' => W c d σ H') → UI G tgE (.Call (.Name "range" p) [ea, eb] [] pos) σ H Q := by
  intro env st as σ H Q h0 h1 hP
  refine ⟨iR2 (UA G [ea, eb]), fun X hX => piU_range2 (gl_of hG hX hg) (by rw [(hG X hX).1.mg]; exact T.rng) (pa_U hX) (by rw [star_cons hs]) (star_cons hs2), ha env st as σ H _ h0 h1 ?_⟩
  cases q : a env st with
  | val vs st1 =>
    rw [q] at hP
    obtain ⟨hc, hk⟩ := hP
    intro as1 ws H1 p1 R1 V1
    match vs, hc, hk, V1 with
    | [], hc, hk, V1 => exact absurd rfl hc
    | [v], hc, hk, V1 => exact absurd (by cases v <;> rfl) hc
    | v :: u :: z :: t, hc, hk, V1 => exact absurd (by cases v <;> cases u <;> rfl) hc
    | [v, u], hc, hk, V1 =>
      cases V1 with
      | cons r r2 =>
        obtain ⟨w1, e1, r3⟩ := vrs1 r2
        subst e1
        cases v with
        | int n =>
          cases u with
          | int k =>
            cases r
            obtain rfl : w1 = V.int k := r3
            by_cases hb : -(2 ^ 62) ≤ n ∧ n < 2 ^ 62 ∧ -(2 ^ 62) ≤ k ∧ k < 2 ^ 62
            · exact ⟨n, k, rfl, hb, hk as1 H1 _ p1 R1 itok_rng2⟩
            · exact absurd (by unfold cur; dsimp only; rw [if_neg hb]) hc
          | _ => exact absurd rfl hc
        | _ => exact absurd (by cases u <;> rfl) hc
  | exc c fs en st1 =>
    rw [q] at hP
    exact hP
  | nxt a b => rw [q] at hP; exact hP.elim
  | ret a b => rw [q] at hP; exact hP.elim
  | stk => rw [q] at hP; exact hP.elim

theorem si_rngd (T : Tab P w K mg base cls Pg cf lv) (hs : isStar ea = false) (hs2 : isStar eb = false) (hs3 : isStar ec = false) (hg : S.sc.names.lookup ("range" : Str) = some .globalImplicit) (ha : SA cls G W [ea, eb, ec] a) :
    ∀ env st as σ H (Q : It → Hp → Prop), Rel cls as st H → SR as env σ → PI' cls as .rngd (a env st) Q (fun c d H' => W c d σ H') → UI G tgE (.Call (.Name "range" p) [ea, eb, ec] [] pos) σ H Q := by
  intro env st as σ H Q h0 h1 hP
  refine ⟨iRng3 (UA G [ea, eb, ec]), fun X hX => piU_range3 (gl_of hG hX hg) (by rw [(hG X hX).1.mg]; exact T.rng) (pa_U hX) (by rw [star_cons hs]) (by rw [star_cons hs2, star_cons hs3]; rfl), ha env st as σ H _ h0 h1 ?_⟩
  cases q : a env st with
  | val vs st1 =>
    rw [q] at hP
    obtain ⟨hc, hk⟩ := hP
    intro as1 ws H1 p1 R1 V1
    match vs, hc, hk, V1 with
    | [], hc, hk, V1 => exact absurd rfl hc
    | [v], hc, hk, V1 => exact absurd (by cases v <;> rfl) hc
    | [v, u], hc, hk, V1 => exact absurd (by cases v <;> cases u <;> rfl) hc
    | v :: u :: z :: y :: t, hc, hk, V1 => exact absurd (by cases v <;> cases u <;> cases z <;> rfl) hc
    | [v, u, z], hc, hk, V1 =>
      cases V1 with
      | cons r r2 =>
        cases r2 with
        | cons r2 r3 =>
          obtain ⟨w1, e1, r4⟩ := vrs1 r3
          subst e1
          cases v with
          | int n =>
            cases u with
            | int k =>
              cases z with
              | int c =>
                cases r
                cases r2
                obtain rfl : w1 = V.int c := r4
                by_cases hb : c = -1 ∧ -(2 ^ 62) ≤ n ∧ n < 2 ^ 62 ∧ -(2 ^ 62) ≤ k ∧ k < 2 ^ 62
                · obtain ⟨rfl, b1, b2, b3, b4⟩ := hb
                  exact ⟨n, k, -1, _, rfl, RgC.neg b1 b2 b3 b4, hk as1 H1 _ p1 R1 itok_rngd⟩
                · exact absurd (by unfold cur; dsimp only; rw [if_neg hb]) hc
              | _ => exact absurd rfl hc
            | _ => exact absurd (by cases z <;> rfl) hc
          | _ => exact absurd (by cases u <;> cases z <;> rfl) hc
  | exc c fs en st1 =>
    rw [q] at hP
    exact hP
  | nxt a b => rw [q] at hP; exact hP.elim
  | ret a b => rw [q] at hP; exact hP.elim
  | stk => rw [q] at hP; exact hP.elim

def tupB : Expr → Bool
  | .Tuple _ _ _ => true
  | _ => false
/-- enumerate(xs, start=1) -/
theorem si_enum1 (T : Tab P w K mg base cls Pg cf lv) {cs : Nat} {kp cp : Pos} (ht : tupB tgE = true) (hs : isStar ea = false) (hg : S.sc.names.lookup ("enumerate" : Str) = some .globalImplicit) (ha : SA cls G W [ea] a) :
    ∀ env st as σ H (Q : It → Hp → Prop), Rel cls as st H → SR as env σ → PI' cls as .enum1 (a env st) Q (fun c d H' => W c d σ H') → UI G tgE (.Call (.Name "enumerate" p) [ea] [⟨some "start", .Constant (.int 1) cs cp, kp⟩] pos) σ H Q := by
  intro env st as σ H Q h0 h1 hP
  obtain ⟨elts, kk, tpos, rfl⟩ : ∃ elts kk tpos, tgE = .Tuple elts kk tpos := by
    cases tgE <;> first | exact ⟨_, _, _, rfl⟩ | cases ht
  refine ⟨iEnum1 K 1 (UA G [ea]), fun X hX => by rw [← (hG X hX).1.k]; exact piU_enumK (by decide) (by decide) (gl_of hG hX hg) (by rw [(hG X hX).1.mg]; exact T.enu) (pa_U hX) (star_cons hs), ha env st as σ H _ h0 h1 ?_⟩
  cases q : a env st with
  | val vs st1 =>
    rw [q] at hP
    obtain ⟨hc, hk⟩ := hP
    intro as1 ws H1 p1 R1 V1
    match vs, hc, hk, V1 with
    | [], hc, hk, V1 => exact absurd rfl hc
    | v :: u :: t, hc, hk, V1 => exact absurd (by cases v <;> rfl) hc
    | [v], hc, hk, V1 =>
      obtain ⟨w1, rfl, r⟩ := vrs1 V1
      cases v with
      | ref p =>
        cases eo : st1[p]? with
        | none => exact absurd (by unfold cur; dsimp only; rw [eo]) hc
        | some ob =>
          cases ob with
          | lst xs =>
            obtain ⟨ad, ys, rfl, i1, r', z⟩ := R1.lst r eo
            exact ⟨ad, ys, rfl, SqL.of z, hk as1 H1 _ p1 R1 (itok_enum1 (xs0 := []) i1)⟩
          | _ => exact absurd (by unfold cur; dsimp only; rw [eo]) hc
      | _ => exact absurd rfl hc
  | exc c fs en st1 =>
    rw [q] at hP
    exact hP
  | nxt a b => rw [q] at hP; exact hP.elim
  | ret a b => rw [q] at hP; exact hP.elim
  | stk => rw [q] at hP; exact hP.elim

/-! ### loops -/
omit hG in
theorem PF.bn {r : R} {k : Ev → Store → R} {D : Ends} (h : PF cls as (r.bn k) D W) : PF cls as r { D with nx := fun σ H => ∃ env st as', as <+: as' ∧ Rel cls as' st H ∧ SR as' env σ ∧ PF cls as' (k env st) D W } W := by
  cases r with
  | nxt env st => exact fun as' σ H p R S => ⟨env, st, as', p, R, S, PF.mono p h⟩
  | ret v st => exact h
  | exc c fs en st => exact h
  | val vs st => exact h.elim
  | stk => exact h.elim
omit hG in
theorem PF.imp {r : R} {D D' : Ends} (h : PF cls as r D W) (h1 : ∀ σ H, D.nx σ H → D'.nx σ H) (h2 : ∀ v H, D.rt v H → D'.rt v H) : PF cls as r D' W := by
  cases r with
  | nxt env st => exact fun as' σ H p R S => h1 _ _ (h as' σ H p R S)
  | ret v st => exact fun as' σ H p R S => h2 _ _ (h as' σ H p R S)
  | exc c fs en st => exact h
  | val vs st => exact h.elim
  | stk => exact h.elim
/-- how a for's iterable is walked: by its kind -/
abbrev SIk (cls : Cz) (G : Cx → Prop) (W : WX) (k : Ik) (tg iter : Expr) (f : Ev → Store → R) : Prop := ∀ env st as σ H (Q : It → Hp → Prop), Rel cls as st H → SR as env σ →
  (match f env st with
    | .val vs st' => cur (rk k vs st') vs 0 st' ≠ none ∧ ∀ as' H' J, as <+: as' → Rel cls as' st' H' → ItOk cls as' (rk k vs st') vs J → Q J H'
    | .exc c fs _ st' => ∀ as' H' cv d, as <+: as' → Rel cls as' st' H' → XR cls as' st' c fs cv d H' → W cv d σ H'
    | _ => False) → UI G tg iter σ H Q
def fFor (tg : Tg) (k : Ik) (a b : Ev → Store → R) : Ev → Store → R := fun env st => (a env st).bs fun vs st1 => loopN (cur (rk k vs st1) vs) (fun x env2 st2 => match setTg tg x env2 st2 with
      | none => .stk
      | some env3 => b env3 st2) (turns k vs st1 + 1) 0 env st1
def notSet : Expr → Bool
  | .Set _ _ _ => false
  | _ => true
omit hG in
theorem fold_ok {e : Expr} (h : notSet e = true) (env : Env) (x : Value) : foldedSetIterable e env x = pure x := by
  cases e <;> first | rfl | cases h
theorem loop_ok (hq : mo.q = true) {tg : Tg} {body : List Stmt} {bd : Ev → Store → R} {k : Ik} {vs : List V} {J : It} {D : Ends} {as0 : List Addr} (htg : tgB S.N S.own tg tgE = true) (hb : SSs cls G W body bd) (hJ : ItOk cls as0 k vs J) {m : Nat} {env : Ev} {st : Store} {as : List Addr} (hp : as0 <+: as) (h0 : Rel cls as st H) (h1 : SR as env σ)
    (hP : PF cls as (loopN (cur k vs) (fun x env2 st2 => match setTg tg x env2 st2 with
      | none => .stk
      | some env3 => bd env3 st2) m 0 env st) D W) :
    ∃ Wd : Nat → Nat → L2.St → Hp → Prop, (∃ m, Wd 0 m σ H) ∧ ∀ i m σ H, Wd i m σ H →
      (J.stop i H ∧ D.nx σ H) ∨ (J.go i H ∧ ∃ N : L2.St → Hp → Prop, (∀ σ' H', N σ' H' → ∃ m', m' < m ∧ Wd (i + 1) m' σ' H') ∧ ∀ x H', J.yld i H x H' → UG G tgE x σ H' fun σ2 H2 => USs G body { D with nx := N, ct := N, bk := D.nx } σ2 H2) := by
  refine ⟨fun i m σ H => ∃ env st as, as0 <+: as ∧ Rel cls as st H ∧ SR as env σ ∧ PF cls as (loopN (cur k vs) (fun x env2 st2 => match setTg tg x env2 st2 with
      | none => .stk
      | some env3 => bd env3 st2) m i env st) D W, ⟨m, env, st, as, hp, h0, h1, hP⟩, ?_⟩
  intro i m σ H ⟨env, st, as, hp, h0, h1, hP⟩
  cases m with
  | zero => exact hP.elim
  | succ m =>
    unfold loopN at hP
    cases ec : cur k vs i st with
    | none => rw [ec] at hP; exact hP.elim
    | some oc =>
      rw [ec] at hP
      cases oc with
      | none => exact .inl ⟨(hJ i st as H hp h0).1 ec, hP as σ H (List.prefix_refl _) h0 h1⟩
      | some xs =>
        obtain ⟨x, st1⟩ := xs
        obtain ⟨g1, g2⟩ := (hJ i st as H hp h0).2 x st1 ec
        refine .inr ⟨g1, fun σ' H' => ∃ env st as, as0 <+: as ∧ Rel cls as st H' ∧ SR as env σ' ∧ PF cls as (loopN (cur k vs) (fun x env2 st2 => match setTg tg x env2 st2 with
          | none => .stk
          | some env3 => bd env3 st2) m (i + 1) env st) D W, fun σ' H' hN => ⟨m, Nat.lt_succ_self m, hN⟩, fun y H' hy => ?_⟩
        obtain ⟨as1, p1, R1, V1⟩ := g2 y H' hy
        dsimp only at hP
        cases es : setTg tg x env st1 with
        | none => rw [es] at hP; exact hP.elim
        | some env3 =>
          rw [es] at hP
          refine ug_of hG hq htg R1 (h1.mono p1) V1 es fun σ3 S3 _ => ?_
          refine hb env3 st1 as1 σ3 H' _ R1 S3 (PF.imp (PF.bn (PF.mono p1 hP)) (fun σ4 H4 ⟨env4, st4, as4, p4, R4, S4, P4⟩ => ?_) (fun v H4 q => q))
          exact ⟨env4, st4, as4, (hp.trans p1).trans p4, R4, S4, P4⟩
omit hG in
theorem exE_env {r : R} {env : Ev} {c : Str} {fs : List (Str × V)} {en : Ev} {st1 : Store} (h : exE r env = .exc c fs en st1) : en = env := by
  cases r <;> first | (cases h; done) | (cases h; rfl)
omit hG in
theorem SE.ex (h : SE cls G W e a) : SE cls G W e (fun env st => exE (a env st) env) := fun env st as σ H Q h0 h1 hP => h env st as σ H Q h0 h1 (exE_pv hP)
omit hG in
theorem ST.ex (h : ST cls G W e a) : ST cls G W e (fun env st => exE (a env st) env) := fun env st as σ H Q h0 h1 hP => h env st as σ H Q h0 h1 (by
  dsimp only at hP
  cases q : a env st with
  | exc c fs en st1 => rw [q] at hP; exact hP
  | _ => rw [q] at hP; exact hP)
omit hG in
theorem SA.ex (h : SA cls G W es a) : SA cls G W es (fun env st => exE (a env st) env) := fun env st as σ H Q h0 h1 hP => h env st as σ H Q h0 h1 (by
  dsimp only at hP
  cases q : a env st with
  | exc c fs en st1 => rw [q] at hP; exact hP
  | _ => rw [q] at hP; exact hP)
omit hG in
theorem SIk.ex {k : Ik} (h : SIk cls G W k tgE iter a) : SIk cls G W k tgE iter (fun env st => exE (a env st) env) := fun env st as σ H Q h0 h1 hP => h env st as σ H Q h0 h1 (by
  dsimp only at hP
  cases q : a env st with
  | exc c fs en st1 => rw [q] at hP; exact hP
  | _ => rw [q] at hP; exact hP)
/-- one value, then a statement's end -/
theorem SE.gf {D : Ends} (h : SE cls G W e a) {env : Ev} {st : Store} {as : List Addr} (h0 : Rel cls as st H) (h1 : SR as env σ) {k : V → Store → R} (hP : PF cls as ((exE (a env st) env).b1 k) D W) {Q' : VK}
    (g : ∀ v st1 as1 w H1, as <+: as1 → Rel cls as1 st1 H1 → SR as1 env σ → VR as1 v w → PF cls as1 (k v st1) D W → Q' w H1) : UE G e σ H Q' :=
  (SE.ex h).goF h0 h1 (fun c fs en st1 q => exE_env q) hP g
/-- a test, then two ways -/
theorem ST.gf {D : Ends} (h : ST cls G W e a) {env : Ev} {st : Store} {as : List Addr} (h0 : Rel cls as st H) (h1 : SR as env σ) {k : V → Store → R} (hP : PF cls as ((exE (a env st) env).b1 k) D W) {Q' : Bool → Hp → Prop}
    (g : ∀ v b st1 as1 H1, as <+: as1 → Rel cls as1 st1 H1 → SR as1 env σ → truth v st1 = some b → PF cls as1 (k v st1) D W → Q' b H1) (hk : ∀ v st1, truth v st1 = none → k v st1 = .stk) : UT G e σ H Q' := by
  refine (ST.ex h).run h0 h1 ?_
  unfold PT'
  dsimp only
  cases q : exE (a env st) env with
  | val vs st1 =>
    rw [q] at hP
    match vs, hP with
    | [v], hP =>
      cases ht : truth v st1 with
      | none =>
        have hP2 : PF cls as (k v st1) D W := hP
        rw [hk v st1 ht] at hP2
        exact hP2.elim
      | some b => exact ⟨b, ht, fun as1 H1 p R1 => g v b st1 as1 H1 p R1 (h1.mono p) ht (PF.mono p hP)⟩
    | [], hP => exact hP.elim
    | _ :: _ :: _, hP => exact hP.elim
  | exc c fs en st1 =>
    have := exE_env q
    subst this
    rw [q] at hP
    exact fun as1 H1 cv d p R1 x => hP as1 σ H1 cv d p R1 (h1.mono p) x
  | nxt a b => rw [q] at hP; exact hP.elim
  | ret a b => rw [q] at hP; exact hP.elim
  | stk => rw [q] at hP; exact hP.elim
/-! ### statements -/
theorem ss_for (hq : mo.q = true) {tg : Tg} {k : Ik} {body : List Stmt} (hD : ∀ X, G X → PassesOwn (model X.prog X.w) X.A X.env X.xe) (hn : notSet iter = true) (htg : tgB S.N S.own tg tgE = true) (hi : SIk cls G W k tgE iter a) (hb : SSs cls G W body b) :
    SS cls G W (.For tgE iter body [] pos) (fun env st => (exE (a env st) env).bs fun vs st1 => loopN (cur (rk k vs st1) vs) (fun x env2 st2 => match setTg tg x env2 st2 with
      | none => .stk
      | some env3 => b env3 st2) (turns k vs st1 + 1) 0 env st1) := by
  intro env st as σ H D h0 h1 hP; dsimp only at hP
  refine ⟨tFor (UI G tgE iter) (UG G tgE) (USs G body), fun X hX => ps_forU (hD X hX) ((hG X hX).1.q hq) (pi_U hX) (pg_U hX) (pss_U hX) (fold_ok hn _), ?_⟩
  refine SIk.ex hi env st as σ H _ h0 h1 ?_
  dsimp only
  cases q : exE (a env st) env with
  | val vs st1 =>
    rw [q] at hP
    have hP2 : PF cls as (loopN (cur (rk k vs st1) vs) (fun x env2 st2 => match setTg tg x env2 st2 with
      | none => .stk
      | some env3 => b env3 st2) (turns k vs st1 + 1) 0 env st1) D W := hP
    refine ⟨fun hc => ?_, fun as1 H1 J p1 R1 hJ => loop_ok hG hq htg hb hJ (List.prefix_refl _) R1 (h1.mono p1) (PF.mono p1 hP2)⟩
    unfold loopN at hP2
    rw [hc] at hP2
    exact hP2.elim
  | exc c fs en st1 =>
    have := exE_env q
    subst this
    rw [q] at hP
    exact fun as1 H1 cv d p R1 x => hP as1 σ H1 cv d p R1 (h1.mono p) x
  | nxt a b => rw [q] at hP; exact hP.elim
  | ret a b => rw [q] at hP; exact hP.elim
  | stk => rw [q] at hP; exact hP.elim
theorem ss_whl {body : List Stmt} (hD : ∀ X, G X → PassesOwn (model X.prog X.w) X.A X.env X.xe) (hc : ST cls G W ec c) (hb : SSs cls G W body b) :
    SS cls G W (.While ec body [] pos) (fun env st => whlN (fun env st => exE (c env st) env) b wBound env st) := by
  intro env st as σ H D h0 h1 hP; dsimp only at hP
  refine ⟨tWhile (UT G ec) (USs G body), fun X hX => ps_while (hD X hX) (pt_U hX) (pss_U hX), ?_⟩
  refine ⟨fun m σ H => ∃ env st as, Rel cls as st H ∧ SR as env σ ∧ PF cls as (whlN (fun env st => exE (c env st) env) b m env st) D W, ⟨wBound, env, st, as, h0, h1, hP⟩, ?_⟩
  intro m σ H ⟨env, st, as, h0, h1, hP⟩
  cases m with
  | zero => exact hP.elim
  | succ m =>
    unfold whlN at hP
    refine hc.gf hG h0 h1 hP (fun v k st1 as1 H1 p1 R1 S1 ht hP1 => ?_) (fun v st1 ht => by simp only [ht])
    rw [ht] at hP1
    cases k with
    | true =>
      rw [if_pos rfl]
      refine ⟨fun σ' H' => ∃ env st as, Rel cls as st H' ∧ SR as env σ' ∧ PF cls as (whlN (fun env st => exE (c env st) env) b m env st) D W, fun σ' H' hN => ⟨m, Nat.lt_succ_self m, hN⟩, ?_⟩
      refine hb env st1 as1 σ H1 _ R1 S1 (PF.imp (PF.bn hP1) (fun σ4 H4 ⟨env4, st4, as4, p4, R4, S4, P4⟩ => ?_) (fun v H4 q => q))
      exact ⟨env4, st4, as4, R4, S4, P4⟩
    | false =>
      rw [if_neg (by decide)]
      exact hP1 as1 σ H1 (List.prefix_refl _) R1 S1
omit hG in
theorem sss_nil : SSs cls G W [] (fun env st => .nxt env st) := fun env st as σ H D h0 h1 hP => ⟨tNext, fun X hX => pss_nil, hP as σ H (List.prefix_refl _) h0 h1⟩
omit hG in
theorem sss_cons {s : Stmt} {ss : List Stmt} (ha : SS cls G W s a) (hb : SSs cls G W ss b) : SSs cls G W (s :: ss) (fun env st => (a env st).bn fun env1 st1 => b env1 st1) := fun env st as σ H D h0 h1 hP => by
  refine ⟨tSeq (US G s) (USs G ss), fun X hX => pss_cons (ps_U hX) (pss_U hX), ?_⟩
  refine ha env st as σ H _ h0 h1 (PF.imp (PF.bn hP) (fun σ1 H1 ⟨env1, st1, as1, p1, R1, S1, P1⟩ => ?_) (fun v H1 q => q))
  exact hb env1 st1 as1 σ1 H1 D R1 S1 P1
omit hG in
theorem ss_pass : SS cls G W (.Pass pos) (fun env st => .nxt env st) := fun env st as σ H D h0 h1 hP => ⟨tNext, fun X hX => ps_pass, hP as σ H (List.prefix_refl _) h0 h1⟩
theorem ss_ifs {p q : List Stmt} (hc : ST cls G W ec c) (ha : SSs cls G W p a) (hb : SSs cls G W q b) : SS cls G W (.If ec p q pos) (fun env st => (exE (c env st) env).b1 fun v st1 => match truth v st1 with
    | none => .stk
    | some true => a env st1
    | some false => b env st1) := fun env st as σ H D h0 h1 hP => by
  dsimp only at hP
  refine ⟨tIfS (UT G ec) (USs G p) (USs G q), fun X hX => ps_if (pt_U hX) (pss_U hX) (pss_U hX), ?_⟩
  refine hc.gf hG h0 h1 hP (fun v k st1 as1 H1 p1 R1 S1 ht hP1 => ?_) (fun v st1 ht => by simp only [ht])
  rw [ht] at hP1
  cases k with
  | true => rw [if_pos rfl]; exact ha env st1 as1 σ H1 D R1 S1 hP1
  | false => rw [if_neg (by decide)]; exact hb env st1 as1 σ H1 D R1 S1 hP1
theorem ss_ret (ha : SE cls G W ea a) : SS cls G W (.Return (some ea) pos) (fun env st => (exE (a env st) env).b1 fun v st1 => .ret v st1) := fun env st as σ H D h0 h1 hP =>
  ⟨tRet (UE G ea), fun X hX => ps_ret (pe_U hX), ha.gf hG h0 h1 hP fun v st1 as1 w H1 p1 R1 S1 V1 hP1 => hP1 as1 w H1 (List.prefix_refl _) R1 V1⟩
omit hG in
theorem ss_retN : SS cls G W (.Return none pos) (fun _ st => .ret .non st) := fun env st as σ H D h0 h1 hP =>
  ⟨tRetN, fun X hX => ps_retN, hP as .non H (List.prefix_refl _) h0 rfl⟩
def plainVal : Expr → Bool
  | .ListComp _ _ _ _ => false
  | .SetComp _ _ _ _ => false
  | .DictComp _ _ _ _ _ => false
  | _ => true
omit hG in
theorem swap_ok {e : Expr} (h : plainVal e = true) (t : Option Expr) (l : Nat) (env : Env) : swapsWith e t l env = pure false := by
  cases e <;> first | rfl | cases h
theorem ss_drop (hp : plainVal ea = true) (ha : SE cls G W ea a) : SS cls G W (.Expr ea pos) (fun env st => (exE (a env st) env).b1 fun _ st1 => .nxt env st1) := fun env st as σ H D h0 h1 hP =>
  ⟨tDrop (UE G ea), fun X hX => ps_expr (pe_U hX) (swap_ok hp _ _ _), ha.gf hG h0 h1 hP fun v st1 as1 w H1 p1 R1 S1 V1 hP1 => hP1 as1 σ H1 (List.prefix_refl _) R1 S1⟩
theorem ss_asgN {i : Nat} {p' : Pos} (hp : plainVal ea = true) (hN : S.N[i]? = some x) (ho : x ∈ S.own) (ha : SE cls G W ea a) : SS cls G W (.Assign [.Name x p'] ea pos) (fun env st => (exE (a env st) env).b1 fun v st1 => if i < env.length then .nxt (env.set i (some v)) st1 else .stk) := fun env st as σ H D h0 h1 hP => by
  dsimp only at hP
  refine ⟨tAsg (UE G ea) (gName i), fun X hX => ?_, ha.gf hG h0 h1 hP fun v st1 as1 w H1 p1 R1 S1 V1 hP1 => ?_⟩
  · obtain ⟨o1, o2⟩ := (hG X hX).1.own x ho
    exact ps_set (by rw [(hG X hX).1.n]; exact (hG X hX).1.nd) (by rw [(hG X hX).1.n]; exact hN) o1 (pe_U hX) (swap_ok hp _ _ _) o2
  · split at hP1
    · exact hP1 as1 _ H1 (List.prefix_refl _) R1 (S1.set V1 i)
    · exact hP1.elim
def notTup : Expr → Bool
  | .Tuple _ _ _ => false
  | _ => true
omit hG in
theorem swapped_ok {ts : List Expr} {e : Expr} {k : Nat} {p' : Pos} {env : Env} (h : notTup e = true) : swappedStores [.Tuple ts k p'] e env = pure none := by
  cases e <;> first | rfl | cases h
theorem ss_asgT (hq : mo.q = true) {is : List Nat} {ts : List Expr} {k : Nat} {p' : Pos} (hp : plainVal ea = true) (hnt : notTup ea = true) (htg : tgB S.N S.own (.t is) (.Tuple ts k p') = true) (ha : SE cls G W ea a) : SS cls G W (.Assign [.Tuple ts k p'] ea pos) (fun env st => (exE (a env st) env).b1 fun v st1 => match setTg (.t is) v env st1 with
    | some env1 => .nxt env1 st1
    | none => .stk) := fun env st as σ H D h0 h1 hP => by
  dsimp only at hP
  refine ⟨tAsg (UE G ea) (UG G (.Tuple ts k p')), fun X hX => ps_asg (pe_U hX) (pg_U hX) (by unfold swapsWithSole; exact swap_ok hp _ _ _) (swapped_ok hnt) rfl, ha.gf hG h0 h1 hP fun v st1 as1 w H1 p1 R1 S1 V1 hP1 => ?_⟩
  split at hP1
  · rename_i env1 es
    exact ug_of hG hq htg R1 S1 V1 es fun σ' S' _ => hP1 as1 σ' H1 (List.prefix_refl _) R1 S'
  · exact hP1.elim
omit hG in
theorem KRs.putF {as : List Addr} {f : Str} {v w : V} (r : VR as v w) : ∀ {fs gs : List (Str × V)}, KRs as fs gs → KRs as (putF f v fs) (L2.putF f w gs)
  | _, _, .nil => .cons ⟨rfl, r⟩ .nil
  | _, _, .cons (a := p) (b := q) g rs => by
    obtain ⟨p1, p2⟩ := p
    obtain ⟨q1, q2⟩ := q
    obtain ⟨g1, g2⟩ := g
    dsimp only at g1 g2
    subst g1
    show KRs as (if p1 = f then (p1, v) :: _ else (p1, p2) :: _) (if p1 = f then (p1, w) :: _ else (p1, q2) :: _)
    by_cases h : p1 = f
    · rw [if_pos h, if_pos h]
      exact .cons ⟨rfl, r⟩ rs
    · rw [if_neg h, if_neg h]
      exact .cons ⟨rfl, g2⟩ (KRs.putF r rs)
theorem ss_asgF (T : Tab P w K mg base cls Pg cf lv) {f : Str} {p' : Pos} (hp : plainVal ea = true) (hb : plainBase eo = true) (ho : SE cls G W eo o) (ha : SE cls G W ea a) : SS cls G W (.Assign [.Attribute eo f p'] ea pos) (fun env st => (exE (a env st) env).b1 fun v st1 => (exE (o env st1) env).b1 fun x st2 => match x with
    | .ref p => match st2[p]? with
      | some (.ins c fs) => if fs.length < 1000 ∧ Pg.fld c f = true then .nxt env (st2.set p (.ins c (putF f v fs))) else .stk
      | _ => .stk
    | _ => .stk) := fun env st as σ H D h0 h1 hP => by
  dsimp only at hP
  refine ⟨sFld K (UE G eo) (UE G ea) f, fun X hX => by rw [← (hG X hX).1.k]; exact ps_fld (pe_U hX) (pe_U hX) (swap_ok hp _ _ _), ?_⟩
  refine ha.gf hG h0 h1 hP fun v st1 as1 w H1 p1 R1 S1 V1 hP1 => ho.gf hG R1 S1 hP1 fun u st2 as2 y H2 p2 R2 S2 V2 hP2 => ?_
  split at hP2
  · split at hP2
    · rename_i p c fs e
      obtain ⟨ad, dx, gs, rfl, i1, r, z⟩ := R2.ins V2 e
      split at hP2
      · rename_i hl
        refine ⟨ad, cls c, dx, gs, rfl, z, (T.fld c f hl.2).1, (T.fld c f hl.2).2, by rw [← Mi.P.length r]; exact hl.1, ?_⟩
        exact hP2 as2 σ _ (List.prefix_refl _) (R2.set i1 e rfl ⟨dx, _, KRs.putF (V1.mono p2) r, upd_same⟩) S2
      · exact hP2.elim
    · exact hP2.elim
  · exact hP2.elim

/-! ### o[i] = v -/
omit hG in
theorem set_dict {X : Cx} (hu : X.A.units + 1 < cLine) : PSet X (fun o i v H Q => ∃ a H', o = .ref a ∧ DPut H a i v H' ∧ Q H') := fun pins s σ H o i v ov iv u Q I ro ri rv ⟨a, H', eo, g, q⟩ => by
  subst eo
  obtain rfl : ov = Value.ref a := ro
  exact d_setItem hu I g ri rv fun s' I' => ⟨H', I', q⟩
omit hG in
theorem KRs.putK {κ : Type} [DecidableEq κ] {as : List Addr} {k : κ} {v w : V} (r : VR as v w) {kvs kws : List (κ × V)} (h : KRs as kvs kws) : KRs as (putK kvs k v) (L2.putK kws k w) := by
  have ha : (kvs.any fun kv => decide (kv.1 = k)) = (kws.any fun kv => decide (kv.1 = k)) := by
    induction h with
    | nil => rfl
    | cons f _ ih =>
      rw [List.any_cons, List.any_cons, ih, f.1]
  unfold L2.putK
  rw [ha]
  split
  · rename_i hh
    clear ha hh
    induction h with
    | nil => exact .nil
    | cons f rs ih =>
      rename_i p q l1 l2
      rw [List.map_cons, List.map_cons]
      refine .cons ?_ ih
      rw [f.1]
      split
      · exact ⟨rfl, r⟩
      · exact ⟨f.1, f.2⟩
  · exact Mi.P.append h (.cons ⟨rfl, r⟩ .nil)
theorem setI_ok {v u z x y q : V} {st' : Store} {QH : Hp → Prop} (R : Rel cls as st H) (hx : VR as v x) (hy : VR as u y) (hz : VR as z q) (h : setI v u z st = some st') (k : ∀ H', Rel cls as st' H' → QH H') : USet G x y q H QH := by
  unfold setI at h
  split at h
  · split at h
    · rename_i p i xs kk e
      obtain ⟨a, ys, rfl, i1, r1, z1⟩ := R.lst hx e
      cases hy
      split at h
      · rename_i j ej
        cases h
        refine ⟨_, fun X hX => set_list, a, ys, kk, j, rfl, rfl, z1, by rw [← Mi.P.length r1]; exact ej, ?_⟩
        exact k _ (R.set i1 e rfl ⟨_, Mi.P.set hz j r1, upd_same⟩)
      · cases h
    · rename_i p i kvs kk e
      obtain ⟨a, kws, rfl, i1, r1, z1⟩ := R.dK hx e
      cases hy
      split at h
      · rename_i hl
        cases h
        refine ⟨_, fun X hX => set_dict (by have := (hGB hG X hX).units; omega), a, _, rfl, DPut.k (k := Sum.inr kk) z1 (by rw [← sz_eq, ← Mi.P.length r1]; exact hl), ?_⟩
        exact k _ (R.set i1 e rfl ⟨_, KRs.putK hz r1, upd_same⟩)
      · cases h
    · cases h
  · cases h
omit hG in
theorem swapS_ok {e a b : Expr} {p' : Pos} (l : Nat) (env : Env) : swapsWith e (some (.Subscript a b p')) l env = pure false := by
  cases e <;> rfl
theorem ss_asgI {p' : Pos} (hns : noSlice eb = true) (ho : SE cls G W eo o) (hi : SE cls G W eb b) (ha : SE cls G W ea a) : SS cls G W (.Assign [.Subscript eo eb p'] ea pos) (fun env st => (exE (a env st) env).b1 fun v st1 => (exE (o env st1) env).b1 fun x st2 => (exE (b env st2) env).b1 fun y st3 => match setI x y v st3 with
    | some st4 => .nxt env st4
    | none => .stk) := fun env st as σ H D h0 h1 hP => by
  dsimp only at hP
  refine ⟨tAsg (UE G ea) (gSub (UE G eo) (UE G eb) (USet G)), fun X hX => ps_asg (pe_U hX) (pg_sub (pe_U hX) (pe_U hX) (set_U hX) ?_) (by unfold swapsWithSole; exact swapS_ok _ _) rfl rfl, ?_⟩
  · intro v
    cases eb <;> first | rfl | cases hns
  · refine ha.gf hG h0 h1 hP fun v st1 as1 w H1 p1 R1 S1 V1 hP1 => ho.gf hG R1 S1 hP1 fun u st2 as2 y H2 p2 R2 S2 V2 hP2 => hi.gf hG R2 S2 hP2 fun z st3 as3 q H3 p3 R3 S3 V3 hP3 => ?_
    split at hP3
    · rename_i st4 es
      exact setI_ok hG R3 (V2.mono p3) V3 ((V1.mono p2).mono p3) es fun H' R' => hP3 as3 σ H' (List.prefix_refl _) R' S3
    · exact hP3.elim
/-! ### x op= e -/
omit hG in
def UIp (G : Cx → Prop) (op : Operator) : TIp := fun x y H Q => ∃ r, (∀ X, G X → PIp X op r) ∧ r x y H Q
theorem ss_aug {i : Nat} {op : Operator} {p' : Pos} (hN : S.N[i]? = some x) (ho : x ∈ S.own) (ha : SE cls G W ea a) : SS cls G W (.AugAssign (.Name x p') op ea pos) (fun env st => match env[i]? with
    | some (some x) => (exE (a env st) env).b1 fun y st1 => match op, x, y with
      | .Add, .int a, .int b => .nxt (env.set i (some (.int (a + b)))) st1
      | .Sub, .int a, .int b => .nxt (env.set i (some (.int (a - b)))) st1
      | _, _, _ => .stk
    | _ => .stk) := fun env st as σ H D h0 h1 hP => by
  dsimp only at hP
  split at hP
  · rename_i v ev
    obtain ⟨w, ew, rw'⟩ := h1.at_ i v ev
    refine ⟨tAug i (UE G ea) (UIp G op), fun X hX => ?_, w, ew, ha.gf hG h0 h1 hP fun u st1 as1 y H1 p1 R1 S1 V1 hP1 => ?_⟩
    · obtain ⟨o1, o2⟩ := (hG X hX).1.own x ho
      exact ps_aug (by rw [(hG X hX).1.n]; exact (hG X hX).1.nd) (by rw [(hG X hX).1.n]; exact hN) o1 (pe_U hX) (fun pins s σ H x y v u Q I r1 r2 ⟨t, ht, q⟩ => ht X hX pins s σ H x y v u Q I r1 r2 q) o2
    · split at hP1
      · cases rw'
        cases V1
        exact ⟨_, fun _ _ => ip_add, _, _, rfl, rfl, hP1 as1 _ H1 (List.prefix_refl _) R1 (S1.set (v := .int _) (w := .int _) rfl i)⟩
      · cases rw'
        cases V1
        exact ⟨_, fun _ _ => ip_sub, _, _, rfl, rfl, hP1 as1 _ H1 (List.prefix_refl _) R1 (S1.set (v := .int _) (w := .int _) rfl i)⟩
      · exact hP1.elim
  · exact hP.elim
/-- o.f -= e -/
theorem ss_augF (T : Tab P w K mg base cls Pg cf lv) {f : Str} {p' : Pos} (ho : SE cls G W eo o) (ha : SE cls G W ea a) : SS cls G W (.AugAssign (.Attribute eo f p') .Sub ea pos) (fun env st => (exE (o env st) env).b1 fun x st1 => match x with
    | .ref p => match st1[p]? with
      | some (.ins c fs) => if Pg.fld c f then (match fs.lookup f with
        | some v => (exE (a env st1) env).b1 fun y st2 => match v, y with
          | .int i, .int j => match st2[p]? with
            | some (.ins c2 fs2) => if c2 = c ∧ fs2.length < 1000 then .nxt env (st2.set p (.ins c2 (putF f (.int (i - j)) fs2))) else .stk
            | _ => .stk
          | _, _ => .stk
        | none => .stk) else .stk
      | _ => .stk
    | _ => .stk) := fun env st as σ H D h0 h1 hP => by
  dsimp only at hP
  refine ⟨sFldAug K (UE G eo) (UE G ea) rSub f, fun X hX => by rw [← (hG X hX).1.k]; exact ps_fldaug (pe_U hX) (pe_U hX) in_sub, ?_⟩
  refine ho.gf hG h0 h1 hP fun u st1 as1 y H1 p1 R1 S1 V1 hP1 => ?_
  split at hP1
  · split at hP1
    · rename_i p _ c fs e
      obtain ⟨ad, dx, gs, rfl, i1, r, z⟩ := R1.ins V1 e
      split at hP1
      · rename_i hf
        split at hP1
        · rename_i v ev
          obtain ⟨w, q1, q2⟩ := KRs.lookup r ev
          refine ⟨ad, cls c, dx, gs, w, rfl, z, (T.fld c f hf).1, (T.fld c f hf).2, q1, ha.gf hG R1 S1 hP1 fun y' st2 as2 w2 H2 p2 R2 S2 V2 hP2 => ?_⟩
          split at hP2
          · cases q2
            cases V2
            split at hP2
            · rename_i c2 fs2 e2
              have V3 : VR as2 (.ref p) (.ref ad) := ⟨ad, pre_get p2 i1, rfl⟩
              obtain ⟨ad2, dx2, gs2, ea2, i2, r2, z2⟩ := R2.ins V3 e2
              cases ea2
              by_cases hl : c2 = c ∧ fs2.length < 1000
              · rw [if_pos hl] at hP2
                obtain ⟨rfl, hl⟩ := hl
                refine ⟨_, _, rfl, rfl, dx2, gs2, z2, by rw [← Mi.P.length r2]; exact hl, ?_⟩
                exact hP2 as2 σ _ (List.prefix_refl _) (R2.set i2 e2 rfl ⟨dx2, _, KRs.putF (show VR as2 (.int _) (.int _) from rfl) r2, upd_same⟩) S2
              · rw [if_neg hl] at hP2
                exact hP2.elim
            · exact hP2.elim
          · exact hP2.elim
        · exact hP1.elim
      · exact hP1.elim
    · exact hP1.elim
  · exact hP1.elim
end
end
end Mi
set_option maxHeartbeats 400000
/-! Mi: list comprehensions. -/
namespace Mi
open PySem PySem.Spec PyProof.Rows L2 L2H

/-- a wish that asks no slots -/
abbrev wk (Xk : XK) : WX := fun cv d _ H => Xk cv d H
abbrev GC (P : Program) (w : World) (K : PySem.W.Frag) (mg : Str → Option Value) (base : Heap) (cls : Cz) (lv : Nat) (S : Sc) (mo : Mo) (Xk : XK) : Cx → Prop := fun X => GX P w K mg base cls lv S mo X ∧ Tk cls.bad X (wk Xk)

section
variable {P : Program} {w : World} {K : PySem.W.Frag} {mg : Str → Option Value} {base : Heap} {cls : Cz} {Pg : Prog} {cf : Bool → Str → List V → Store → R} {lv : Nat} {S : Sc} {mo : Mo} {G : Cx → Prop} {W : WX}
variable {e ea eb ec eo tgE iter elt : Expr} {es ifs : List Expr} {a b c o : Ev → Store → R} {x m : Str} {pos p apos : Pos}
variable {as : List Addr} {st : Store} {H : Hp} {Q : VK} {env : Ev} {σ : L2.St} {Xk : XK}

/-- a turn: the tests, the element -/
def turnR (t : Ev → Store → R) (f : Ev → Store → R) (env2 : Ev) (st2 : Store) : R := (t env2 st2).bs fun bs st3 => match bs with
  | [] => (f env2 st3).b1 fun v st4 => .val [v] st4
  | [b] => match truth b st3 with
    | some true => (f env2 st3).b1 fun v st4 => .val [v] st4
    | some false => .val [] st3
    | none => .stk
  | _ => .stk
def PTn (cls : Cz) (as : List Addr) (r : R) (Qy : V → Hp → Prop) (Qn : Hp → Prop) (Xk : XK) : Prop := match r with
  | .val [] st' => ∀ as' H', as <+: as' → Rel cls as' st' H' → Qn H'
  | .val [v] st' => ∀ as' w H', as <+: as' → Rel cls as' st' H' → VR as' v w → Qy w H'
  | .exc c fs _ st' => ∀ as' H' cv d, as <+: as' → Rel cls as' st' H' → XR cls as' st' c fs cv d H' → Xk cv d H'
  | _ => False
/-- what a turn's reading must give -/
def TurnOk (cls : Cz) (G : Cx → Prop) (Xk : XK) (ifs : List Expr) (elt : Expr) (r : Ev → Store → R) : Prop := ∀ env st as σ H (Qy : V → Hp → Prop) (Qn : Hp → Prop), Rel cls as st H → SR as env σ →
  PTn cls as (r env st) Qy Qn Xk → UTs G ifs σ H fun b H3 => if b = true then UE G elt σ H3 Qy else Qn H3
theorem elt_go (he : SE cls G (wk Xk) elt a) {Qy : V → Hp → Prop} {Qn : Hp → Prop} (h0 : Rel cls as st H) (h1 : SR as env σ) (hP : PTn cls as ((a env st).b1 fun v st4 => .val [v] st4) Qy Qn Xk) : UE G elt σ H Qy := by
  refine he env st as σ H Qy h0 h1 ?_
  cases q : a env st with
  | val vs st1 =>
    rw [q] at hP
    match vs, hP with
    | [v], hP => exact hP
    | [], hP => exact hP.elim
    | _ :: _ :: _, hP => exact hP.elim
  | exc c fs en st1 => rw [q] at hP; exact hP
  | nxt a b => rw [q] at hP; exact hP.elim
  | ret a b => rw [q] at hP; exact hP.elim
  | stk => rw [q] at hP; exact hP.elim
theorem PTn.mono {as' : List Addr} {r : R} {Qy : V → Hp → Prop} {Qn : Hp → Prop} (p : as <+: as') (h : PTn cls as r Qy Qn Xk) : PTn cls as' r Qy Qn Xk := by
  cases r with
  | val vs st =>
    match vs, h with
    | [], h => exact fun a H q => h a H (p.trans q)
    | [v], h => exact fun a w H q => h a w H (p.trans q)
    | _ :: _ :: _, h => exact h.elim
  | exc c fs en st1 => exact fun a H cv d q => h a H cv d (p.trans q)
  | nxt a b => exact h.elim
  | ret a b => exact h.elim
  | stk => exact h.elim
theorem turn_nil (he : SE cls G (wk Xk) elt a) : TurnOk cls G Xk [] elt (turnR (fun _ st => .val [] st) a) := by
  intro env st as σ H Qy Qn h0 h1 hP
  refine ⟨tYes, fun X hX => pts_nil, ?_⟩
  show (if true = true then UE G elt σ H Qy else Qn H)
  rw [if_pos rfl]
  exact elt_go he h0 h1 hP
theorem turn_one (hc : ST cls G (wk Xk) ec c) (he : SE cls G (wk Xk) elt a) : TurnOk cls G Xk [ec] elt (turnR (fun env st => (c env st).b1 fun v st1 => .val [v] st1) a) := by
  intro env st as σ H Qy Qn h0 h1 hP
  refine ⟨UT G ec, fun X hX => pts_one (pt_U hX), hc.run h0 h1 ?_⟩
  unfold turnR at hP
  dsimp only at hP
  unfold PT'
  cases q : c env st with
  | val vs st1 =>
    rw [q] at hP
    match vs, hP with
    | [v], hP =>
      unfold R.b1 R.bs at hP
      dsimp only at hP
      cases ht : truth v st1 with
      | none => rw [ht] at hP; exact hP.elim
      | some k =>
        rw [ht] at hP
        refine ⟨k, ht, fun as1 H1 p1 R1 => ?_⟩
        cases k with
        | true =>
          rw [if_pos rfl]
          exact elt_go he R1 (h1.mono p1) (PTn.mono p1 hP)
        | false =>
          rw [if_neg (by decide)]
          exact hP as1 H1 p1 R1
    | [], hP => exact hP.elim
    | _ :: _ :: _, hP => exact hP.elim
  | exc c fs en st1 => rw [q] at hP; exact hP
  | nxt a b => rw [q] at hP; exact hP.elim
  | ret a b => rw [q] at hP; exact hP.elim
  | stk => rw [q] at hP; exact hP.elim

/-! ### the block's contexts -/
/-- the block of a comprehension: its names, its scope -/
def blkS (S : Sc) (scope : Scope) (own : List Str) : Sc := ⟨S.N, relS scope S.sc, own⟩
theorem gc_blk {X : Cx} {scope : Scope} {own : List Str} (h : GX P w K mg base cls lv S mo X) (hk : scope.kind = .function) (ho : ∀ x ∈ own, scope.names.lookup x = some .local ∨ scope.names.lookup x = some .cell) (s : Shared) (H : Hp) (C : Addr) (cl : List (Str × Addr)) (fp : List Addr) (pn : List (Addr × Obj)) (xe : Value → Shared → Prop) (sub : ∀ p ∈ X.pn, p ∈ pn)
    (tk : Tk cls.bad (blkU X s H scope (compEnvC scope cl C X.env) fp pn xe) (wk Xk)) : GC P w K mg base cls lv (blkS S scope own) mo Xk (blkU X s H scope (compEnvC scope cl C X.env) fp pn xe) := by
  have esc : (compEnvC scope cl C X.env).scope = relS scope S.sc := by
    rw [← h.scope]
    rfl
  refine ⟨⟨h.prog, h.w, h.k, h.mg, h.base, h.n, h.nd, esc, hk, h.calm, h.hd0, fun e => ?_, fun a cv d z => ?_, h.room, fun x hx => ?_, ?_⟩, tk⟩
  · obtain ⟨p, e1, e2, e3⟩ := h.hot e
    exact ⟨p, e1, sub p e2, e3⟩
  · obtain ⟨e1, oe, e2, e3⟩ := h.pin a cv d z
    exact ⟨e1, oe, sub _ e2, e3⟩
  · show Loc (compEnvC scope cl C X.env).scope x ∧ ((scope.names.lookup x == some .cell) = true ∨ (compEnvC scope cl C X.env).scope.names.lookup x = some .local)
    rw [esc]
    have e : (relS scope S.sc).names = scope.names.map fun (n, k) => if (k == NameKind.free && S.sc.kind == .function && S.sc.names.lookup n == some .cell) then (n, NameKind.cell) else (n, k) := rfl
    rcases ho x hx with q | q
    · have := lookup_relS_keep (sc := S.sc) (by decide) q
      rw [← e] at this
      exact ⟨.inl this, .inr this⟩
    · have := lookup_relS_keep (sc := S.sc) (by decide) q
      rw [← e] at this
      exact ⟨.inr this, .inl (by rw [q]; rfl)⟩
  · obtain ⟨e0, r0, t⟩ := h.top
    exact ⟨e0, r0, t.st, t.fr, t.top⟩

theorem qx_blk {X : Cx} {s : Shared} {H : Hp} {scope : Scope} {ce : Env} {fp : List Addr} {pn : List (Addr × Obj)} {xe : Value → Shared → Prop} (h : QX X) (sub : ∀ p ∈ X.pn, p ∈ pn) : QX (blkU X s H scope ce fp pn xe) :=
  h.imp id fun ⟨p, e1, e2⟩ => ⟨p, e1, sub p e2⟩
theorem sw_false {gs : List Comprehension} {scope : Scope} {py : Pos} {y : Str} {l : Nat} {env : Env} (h : ¬ (env.scope.names.lookup y = some .local ∧ (py.line == pos.line) = true ∧ (scope.names.any fun (n, k) => n == y && (k == .local || k == .cell)) = false)) :
    swapsWith (.ListComp elt gs scope pos) (some (.Name y py)) l env = pure false := by
  have e : (env.blockKind == .function && env.kindOf y == some .local && py.line == pos.line && !(scope.names.any fun (n, k) => n == y && (k == .local || k == .cell))) = false := by
    cases h1 : (env.kindOf y == some .local) with
    | false => simp
    | true =>
      cases h2 : (py.line == pos.line) with
      | false => simp
      | true =>
        cases h3 : (scope.names.any fun (n, k) => n == y && (k == .local || k == .cell)) with
        | true => simp
        | false => exact absurd ⟨eq_of_beq h1, h2, h3⟩ h
  unfold swapsWith
  show (pure (env.blockKind == .function && env.kindOf y == some .local && py.line == pos.line && !(scope.names.any fun (n, k) => n == y && (k == .local || k == .cell))) : Sem Bool) = pure false
  rw [e]
def fLc (own : List Nat) (tg : Tg) (k : Ik) (a t f : Ev → Store → R) : Ev → Store → R := fun env st => (a env st).bs fun vs st1 => match cur (rk k vs st1) vs 0 st1 with
    | none => .stk
    | some _ => lcN (cur (rk k vs st1) vs) (fun x st2 => match setTg tg x (wipe env own) st2 with
        | none => .stk
        | some env2 => turnR t f env2 st2) st1.length (turns k vs st1 + 1) 0 (st1 ++ [.lst []])
section
variable (hG : ∀ X, G X → GX P w K mg base cls (lv + 1) S mo X ∧ Tk cls.bad X W)
include hG
/-- a comprehension's reading -/
theorem lc_read (hq : mo.q = true) {S' : Sc} {own : List Nat} {tg : Tg} {k : Ik} {t f : Ev → Store → R} (htg : tgB S'.N S'.own tg tgE = true) (hsl : ∀ j ∈ tgSlots tg, j ∈ own) (hi : SIk cls G W k tgE iter a) (ht : ∀ Xk, TurnOk cls (GC P w K mg base cls (lv + 1) S' mo Xk) Xk ifs elt (turnR t f))
    {env : Ev} {st : Store} {as : List Addr} {Q : VK} (h0 : Rel cls as st H) (h1 : SR as env σ) (hP : PV cls as (fLc own tg k a t f env st) Q (fun c d H' => W c d σ H')) :
    tLc (UI G tgE iter) (UG (GC P w K mg base cls (lv + 1) S' mo fun cv d H' => W cv d σ H') tgE) (UTs (GC P w K mg base cls (lv + 1) S' mo fun cv d H' => W cv d σ H') ifs) (UE (GC P w K mg base cls (lv + 1) S' mo fun cv d H' => W cv d σ H') elt) own σ H Q := by
  refine hi env st as σ H _ h0 h1 ?_
  unfold fLc at hP
  cases q : a env st with
  | exc c fs en st1 => rw [q] at hP; exact hP
  | nxt a b => rw [q] at hP; exact hP.elim
  | ret a b => rw [q] at hP; exact hP.elim
  | stk => rw [q] at hP; exact hP.elim
  | val vs st1 =>
    rw [q] at hP
    unfold R.bs at hP
    dsimp only at hP
    split at hP
    · exact hP.elim
    · rename_i hc
      dsimp only
      refine ⟨(by rw [hc]; intro z; cases z), fun as1 H1 J p1 R1 hJ D hD => ?_⟩
      generalize rk k vs st1 = kk at hP hJ
      have R2 : Rel cls (as1 ++ [D]) (st1 ++ [.lst []]) (upd H1 D (.lst [])) := R1.push hD ⟨[], .nil, upd_same⟩
      have hDi : (as1 ++ [D])[st1.length]? = some D := by
        obtain ⟨d, e1, e2⟩ := VR.new (p := D) R1
        cases e2
        exact e1
      refine ⟨fun i m H => ∃ st as, as1 ++ [D] <+: as ∧ Rel cls as st H ∧ PV cls as (lcN (cur kk vs) (fun x st2 => match setTg tg x (wipe env own) st2 with
        | none => .stk
        | some env2 => turnR t f env2 st2) st1.length m i st) Q (fun c d H' => W c d σ H'), ⟨_, _, _, List.prefix_refl _, R2, PV.mono (p1.trans pre_snoc) hP⟩, ?_⟩
      intro i m H ⟨st, as2, p2, R3, hP3⟩
      have hpre : as1 <+: as2 := pre_snoc.trans p2
      cases m with
      | zero => exact hP3.elim
      | succ m =>
        unfold lcN at hP3
        cases ec : cur kk vs i st with
        | none => rw [ec] at hP3; exact hP3.elim
        | some oc =>
          rw [ec] at hP3
          cases oc with
          | none => exact .inl ⟨(hJ i st as2 H hpre R3).1 ec, hP3 as2 (.ref D) H (List.prefix_refl _) R3 ⟨D, pre_get p2 hDi, rfl⟩⟩
          | some xs =>
            obtain ⟨x, st3⟩ := xs
            obtain ⟨g1, g2⟩ := (hJ i st as2 H hpre R3).2 x st3 ec
            refine .inr ⟨g1, fun H' => ∃ st as, as1 ++ [D] <+: as ∧ Rel cls as st H' ∧ PV cls as (lcN (cur kk vs) (fun x st2 => match setTg tg x (wipe env own) st2 with
              | none => .stk
              | some env2 => turnR t f env2 st2) st1.length m (i + 1) st) Q (fun c d H' => W c d σ H'), fun H' hN => ⟨m, Nat.lt_succ_self m, hN⟩, fun y H' hy => ?_⟩
            obtain ⟨as3, p3, R4, V4⟩ := g2 y H' hy
            dsimp only at hP3
            cases es : setTg tg x (wipe env own) st3 with
            | none => rw [es] at hP3; exact hP3.elim
            | some env2 =>
              rw [es] at hP3
              have S0 : SR as3 env σ := h1.mono ((p1.trans hpre).trans p3)
              refine ug_of (P := P) (w := w) (K := K) (mg := mg) (base := base) (lv := lv) (S := S') (W := wk fun cv d H' => W cv d σ H') (fun X hX => hX) hq htg R4 (S0.wipe own) V4 es fun σ2 S2 hw => ⟨?_, ?_⟩
              · rw [hw own hsl]
                exact wipe_wipe
              · refine ht (fun cv d H' => W cv d σ H') env2 st3 as3 σ2 H' _ _ R4 S2 ?_
                dsimp only at hP3
                cases qt : turnR t f env2 st3 with
                | val us st4 =>
                  rw [qt] at hP3
                  match us, hP3 with
                  | [], hP3 => exact fun as4 H4 p4 R5 => ⟨st4, as4, (p2.trans p3).trans p4, R5, PV.mono (p3.trans p4) hP3⟩
                  | [u], hP3 =>
                    intro as4 z H4 p4 R5 V5
                    have hD4 : as4[st1.length]? = some D := pre_get ((p2.trans p3).trans p4) hDi
                    dsimp only at hP3
                    split at hP3
                    · rename_i acc ea
                      obtain ⟨ad, ys, e5, i5, r5, z5⟩ := R5.lst ⟨D, hD4, rfl⟩ ea
                      cases e5
                      split at hP3
                      · rename_i hl
                        refine ⟨ys, z5, by rw [← sz_eq, ← Mi.P.length r5]; exact hl, ?_⟩
                        exact ⟨_, as4, (p2.trans p3).trans p4, R5.set (o := .lst (acc ++ [u])) hD4 ea rfl ⟨_, Mi.P.append r5 (.cons V5 .nil), upd_same⟩, PV.mono (p3.trans p4) hP3⟩
                      · exact hP3.elim
                    · exact hP3.elim
                  | _ :: _ :: _, hP3 => exact hP3.elim
                | exc c fs en st1 => rw [qt] at hP3; exact fun as4 H4 cv d p4 R5 x5 => hP3 as4 H4 cv d (p3.trans p4) R5 x5
                | nxt a b => rw [qt] at hP3; exact hP3.elim
                | ret a b => rw [qt] at hP3; exact hP3.elim
                | stk => rw [qt] at hP3; exact hP3.elim
/-- a comprehension as a value -/
theorem se_lc (hq : mo.q = true) {scope : Scope} {ownP : List (Str × Nat)} {ownN : List Str} {tg : Tg} {k : Ik} {t f : Ev → Store → R} (hn : notSet iter = true) (hbk : blkC S.N S.sc scope ownP = true) (hk : scope.kind = .function) (hown : ∀ x ∈ ownN, scope.names.lookup x = some .local ∨ scope.names.lookup x = some .cell)
    (htg : tgB S.N ownN tg tgE = true) (hsl : ∀ j ∈ tgSlots tg, j ∈ ownP.map (·.2)) (hi : SIk cls G W k tgE iter a) (ht : ∀ Xk, TurnOk cls (GC P w K mg base cls (lv + 1) (blkS S scope ownN) mo Xk) Xk ifs elt (turnR t f)) :
    SE cls G W (.ListComp elt [⟨tgE, iter, ifs, 0⟩] scope pos) (fLc (ownP.map (·.2)) tg k a t f) := by
  intro env st as σ H Q h0 h1 hP
  refine ⟨fun σ H Q => tLc (UI G tgE iter) (UG (GC P w K mg base cls (lv + 1) (blkS S scope ownN) mo fun cv d H' => W cv d σ H') tgE) (UTs (GC P w K mg base cls (lv + 1) (blkS S scope ownN) mo fun cv d H' => W cv d σ H') ifs) (UE (GC P w K mg base cls (lv + 1) (blkS S scope ownN) mo fun cv d H' => W cv d σ H') elt) (ownP.map (·.2)) σ H Q, fun X hX => ?_, lc_read hG hq htg hsl hi ht h0 h1 hP⟩
  have hx := (hG X hX).1
  obtain ⟨e0, r0, top⟩ := hx.top
  refine pe_lcU (qp := QX) (W := W) top (hG X hX).2 (by rw [hx.n]; exact hx.nd) (pi_U hX) ?_ ⟨fun s H C cl fp pn xe sub => qx_blk (hx.q hq) sub, fun σ s H C cl fp pn xe sub tk => pg_U (gc_blk hx hk hown s H C cl fp pn xe sub tk), fun σ s H C cl fp pn xe sub tk => pts_U (gc_blk hx hk hown s H C cl fp pn xe sub tk), fun σ s H C cl fp pn xe sub tk => pe_U (gc_blk hx hk hown s H C cl fp pn xe sub tk)⟩ (fold_ok hn _)
  rw [hx.n, hx.scope]
  exact blkOk_by hbk
/-- name = [..] -/
theorem ss_asgLc (hq : mo.q = true) {i : Nat} {y : Str} {py spos : Pos} {scope : Scope} {ownP : List (Str × Nat)} {ownN : List Str} {tg : Tg} {k : Ik} {t f : Ev → Store → R} (hn : notSet iter = true) (hbk : blkC S.N S.sc scope ownP = true) (hk : scope.kind = .function) (hown : ∀ x ∈ ownN, scope.names.lookup x = some .local ∨ scope.names.lookup x = some .cell)
    (htg : tgB S.N ownN tg tgE = true) (hsl : ∀ j ∈ tgSlots tg, j ∈ ownP.map (·.2)) (hi : SIk cls G W k tgE iter a) (ht : ∀ Xk, TurnOk cls (GC P w K mg base cls (lv + 1) (blkS S scope ownN) mo Xk) Xk ifs elt (turnR t f)) (hN : S.N[i]? = some y) (ho : y ∈ S.own) :
    SS cls G W (.Assign [.Name y py] (.ListComp elt [⟨tgE, iter, ifs, 0⟩] scope pos) spos) (fun env st => (exE (fLc (ownP.map (·.2)) tg k a t f env st) env).b1 fun v st1 => if i < env.length then .nxt (env.set i (some v)) st1 else .stk) := by
  have hE := se_lc (pos := pos) hG hq hn hbk hk hown htg hsl hi ht
  intro env st as σ H D h0 h1 hP; dsimp only at hP
  by_cases hsw : S.sc.names.lookup y = some .local ∧ (py.line == pos.line) = true ∧ (scope.names.any fun (n, k) => n == y && (k == .local || k == .cell)) = false
  · obtain ⟨w1, w2, w3⟩ := hsw
    refine ⟨fun D σ H => tLc (UI G tgE iter) (UG (GC P w K mg base cls (lv + 1) (blkS S scope ownN) mo fun cv d H' => W cv d σ H') tgE) (UTs (GC P w K mg base cls (lv + 1) (blkS S scope ownN) mo fun cv d H' => W cv d σ H') ifs) (UE (GC P w K mg base cls (lv + 1) (blkS S scope ownN) mo fun cv d H' => W cv d σ H') elt) (ownP.map (·.2)) σ H fun x H1 => gName i x σ H1 D.nx, fun X hX => ?_, ?_⟩
    · have hx := (hG X hX).1
      obtain ⟨e0, r0, top⟩ := hx.top
      refine ps_setLcU (qp := QX) (W := W) top (hG X hX).2 (by rw [hx.n]; exact hx.nd) (by rw [hx.n]; exact hN) (by rw [hx.scope]; exact w1) (sw_true (by rw [hx.scope]; exact hx.kind) (by rw [hx.scope]; exact w1) w2 w3) (pi_U hX) ?_ ⟨fun s H C cl fp pn xe sub => qx_blk (hx.q hq) sub, fun σ s H C cl fp pn xe sub tk => pg_U (gc_blk hx hk hown s H C cl fp pn xe sub tk), fun σ s H C cl fp pn xe sub tk => pts_U (gc_blk hx hk hown s H C cl fp pn xe sub tk), fun σ s H C cl fp pn xe sub tk => pe_U (gc_blk hx hk hown s H C cl fp pn xe sub tk)⟩ (fold_ok hn _)
      rw [hx.n, hx.scope]
      exact blkOk_by hbk
    · refine lc_read hG hq htg hsl hi ht h0 h1 (Q := fun v H1 => gName i v σ H1 D.nx) ?_
      cases q : fLc (ownP.map (·.2)) tg k a t f env st with
      | val vs st1 =>
        rw [q] at hP
        match vs, hP with
        | [v], hP =>
          have hP2 : PF cls as (if i < env.length then .nxt (env.set i (some v)) st1 else .stk) D W := hP
          split at hP2
          · exact fun as1 w1 H1 p1 R1 V1 => hP2 as1 _ H1 p1 R1 ((h1.mono p1).set V1 i)
          · exact hP2.elim
        | [], hP => exact hP.elim
        | _ :: _ :: _, hP => exact hP.elim
      | exc c fs en st1 =>
        rw [q] at hP
        exact fun as1 H1 cv d p1 R1 x => hP as1 σ H1 cv d p1 R1 (h1.mono p1) x
      | nxt a b => rw [q] at hP; exact hP.elim
      | ret a b => rw [q] at hP; exact hP.elim
      | stk => rw [q] at hP; exact hP.elim
  · refine ⟨tAsg (UE G (.ListComp elt [⟨tgE, iter, ifs, 0⟩] scope pos)) (gName i), fun X hX => ?_, hE.gf hG h0 h1 hP fun v st1 as1 w H1 p1 R1 S1 V1 hP1 => ?_⟩
    · have hx := (hG X hX).1
      obtain ⟨o1, o2⟩ := hx.own y ho
      refine ps_set (by rw [hx.n]; exact hx.nd) (by rw [hx.n]; exact hN) o1 (pe_U hX) ?_ o2
      refine sw_false fun z => hsw ?_
      rw [← hx.scope]
      exact z
    · split at hP1
      · exact hP1 as1 _ H1 (List.prefix_refl _) R1 (S1.set V1 i)
      · exact hP1.elim
end
end
end Mi
set_option maxHeartbeats 1000000
/-! Mi: exceptions: isinstance, raise, try. -/
namespace Mi
open PySem PySem.Spec PyProof.Rows L2 L2H

section
variable {P : Program} {w : World} {K : PySem.W.Frag} {mg : Str → Option Value} {base : Heap} {cls : Cz} {Pg : Prog} {cf : Bool → Str → List V → Store → R} {lv : Nat} {S : Sc} {mo : Mo} {G : Cx → Prop} {W : WX}
variable {e ea eb ec eo tgE iter elt : Expr} {es ifs : List Expr} {a b c o : Ev → Store → R} {x m : Str} {pos p apos : Pos}
variable {as : List Addr} {st : Store} {H : Hp} {Q : VK} {env : Ev} {σ : L2.St} {Xk : XK}
/-! ### isinstance -/
def kV' (cls : Cz) (k : Str) : V := if k = "ValueError" then .ty "ValueError" else .ref (cls k)
theorem kV'_rel {k : Str} {u : Value} (h : L2.RelV (kV' cls k) u) : u = clsV cls k := by
  unfold kV' at h
  unfold clsV
  split at h
  · rename_i e
    rw [if_pos e]
    exact h
  · rename_i e
    rw [if_neg e]
    exact h
def rIsX (K : PySem.W.Frag) (xi : XI) : List V → Hp → VK → Prop := fun xs H Q => ∃ a D d, xi a (.ref D) d ∧ ExcT K D ∧ rIsB K D a d xs H Q
theorem call_isX {lv : Nat} {X : Cx} (g : GX P w K mg base cls lv S mo X) : CallR X (.builtin "isinstance") (rIsX K (exX cls.xi)) := by
  rintro pins s σ H xs us Q I r ⟨a, D, d, hxi, T, h⟩
  obtain ⟨oe, p⟩ := g.pinX hxi
  rw [← g.k] at T h
  exact call_isB T p pins s σ H xs us Q I r h
/-- the name of a class, as a value -/
theorem pe_kls {lv : Nat} {X : Cx} (g : GX P w K mg base cls lv S mo X) {k : Str} (hg : Gl X k) (hd : (k == ("__debug__" : Str)) = false) (hk : if k = "ValueError" then mg k = none else mg k = some (.ref (cls k))) : PE X (.Name k p) (tC (kV' cls k)) := by
  unfold kV'
  split at hk
  · rename_i e
    rw [if_pos e]
    subst e
    exact pe_bltn hg (by rw [g.mg]; exact hk) (u := .type "ValueError") (by kernel_rfl) rfl (by decide +kernel) (by decide +kernel)
  · rename_i e
    rw [if_neg e]
    exact pe_glob hg (by rw [g.mg]; exact hk) rfl hd
section
variable (hG : ∀ X, G X → GX P w K mg base cls (lv + 1) S mo X ∧ Tk cls.bad X W)
include hG
theorem se_isc (T : Tab P w K mg base cls Pg cf lv) {k : Str} {p2 : Pos} (hs : isStar ea = false) (hg : S.sc.names.lookup ("isinstance" : Str) = some .globalImplicit) (hg2 : S.sc.names.lookup k = some .globalImplicit) (hd : (k == ("__debug__" : Str)) = false) (hk : Pg.kls k = true) (ha : SE cls G W ea a) :
    SE cls G W (.Call (.Name "isinstance" p) [ea, .Name k p2] [] pos) (fun env st => (a env st).b1 fun x st1 => match x with
    | .ref p => match st1[p]? with
      | some (.exc c _) => ofB (Pg.sub c k) st1
      | _ => .stk
    | _ => .stk) := by
  intro env st as σ H Q h0 h1 hP; dsimp only at hP
  refine ⟨tCB (rIsX K (exX cls.xi)) (tCons (UE G ea) (tCons (tC (kV' cls k)) tNil)), fun X hX => ?_, ha.go h0 h1 hP fun v st1 as1 w H1 p1 R1 S1 V1 hP1 => ?_⟩
  · have hgl := gl_of hG hX hg
    have hgl2 := gl_of hG hX hg2
    have hm : X.mg "isinstance" = none := by rw [(hG X hX).1.mg]; exact T.isi
    exact pe_callB (call_isX (hG X hX).1) hgl hm (by kernel_rfl) (pa_cons (pe_U hX) (pa_cons (pe_kls (hG X hX).1 hgl2 hd (T.kls k hk)) pa_nil (star_cons rfl)) (star_cons hs)) (by decide +kernel) (by decide +kernel) (star_cons hs) rfl
  · split at hP1
    · split at hP1
      · rename_i p _ c fs e
        obtain ⟨ad, d, rfl, hxi, xf⟩ := R1.exc V1 e
        cases hb : Pg.sub c k with
        | none => rw [hb] at hP1; exact hP1.elim
        | some r =>
          rw [hb] at hP1
          have E := T.sub c k r hb
          refine ⟨ad, cls c, d, hxi, E.tx, ?_, kV' cls k, r, rfl, .inl ⟨_, fun u => kV'_rel, E.kt⟩, PV.got (v := .bl r) hP1 R1 rfl⟩
          rintro dd rfl
          rcases xf with ⟨_, z⟩ | ⟨_, dd', gs, e1, e2, _⟩
          · cases z
          · cases e1
            exact ⟨gs, e2⟩
      · exact hP1.elim
    · exact hP1.elim
omit hG in
/-- names of classes -/
def klsB (Pg : Prog) (S : Sc) : List Str → List Expr → Bool
  | [], [] => true
  | k :: ks, .Name y _ :: es => decide (y = k) && (Pg.kls k && (decide (S.sc.names.lookup k = some .globalImplicit) && (!(k == ("__debug__" : Str)) && klsB Pg S ks es)))
  | _, _ => false
omit hG in
def tKs (vs : List V) : TA := fun _ H Q => Q vs H
omit hG in
theorem pa_kls {lv : Nat} {X : Cx} (T : Tab P w K mg base cls Pg cf lv) (g : GX P w K mg base cls (lv + 1) S mo X) : ∀ {ks : List Str} {es : List Expr}, klsB Pg S ks es = true → PA X es (tKs (ks.map (kV' cls)))
  | [], [], _ => pa_nil
  | [], _ :: _, h => by cases h
  | _ :: _, [], h => by cases h
  | k :: ks, e :: es, h => by
    cases e <;> try (cases h; done)
    rename_i y p
    obtain ⟨h1, h⟩ := Bool.and_eq_true_iff.mp (show (decide (y = k) && _) = true from h)
    obtain ⟨h2, h⟩ := Bool.and_eq_true_iff.mp h
    obtain ⟨h3, h⟩ := Bool.and_eq_true_iff.mp h
    obtain ⟨h4, h5⟩ := Bool.and_eq_true_iff.mp h
    cases of_decide_eq_true h1
    have hgl : Gl X k := by
      show X.env.scope.names.lookup k = some .globalImplicit
      rw [g.scope]
      exact of_decide_eq_true h3
    have := pa_cons (pe_kls (p := p) g hgl (by simpa using h4) (T.kls _ h2)) (pa_kls T g h5) (star_cons rfl)
    exact ⟨fun pos pins s σ H Q I q => this.run pos pins s σ H Q I q⟩
omit hG in
theorem kit_of (T : Tab P w K mg base cls Pg cf lv) {c : Str} : ∀ {ks : List Str} {r : Bool}, subAny Pg c ks = some r → ExcT K (cls c) ∧ ∀ us, Vals (ks.map (kV' cls)) us → PySem.W.kitAny K (.ref (cls c)) us = some r
  | [], r, h => by cases h
  | [k], r, h => by
    have E := T.sub c k r h
    refine ⟨E.tx, fun us hv => ?_⟩
    cases hv with
    | cons h1 h2 =>
      cases h2
      rw [kV'_rel h1]
      unfold PySem.W.kitAny
      rw [E.kt]
      cases r <;> rfl
  | k :: k2 :: ks, r, h => by
    unfold subAny at h
    cases hb : Pg.sub c k with
    | none => rw [hb] at h; cases h
    | some b =>
      have E := T.sub c k b hb
      refine ⟨E.tx, fun us hv => ?_⟩
      cases hv with
      | cons h1 h2 =>
        rw [kV'_rel h1]
        unfold PySem.W.kitAny
        rw [E.kt]
        rw [hb] at h
        cases b with
        | true =>
          cases h
          rfl
        | false => exact (kit_of T h).2 _ h2
theorem se_iscs (T : Tab P w K mg base cls Pg cf lv) {ks : List Str} {n : Nat} {p2 : Pos} (hs : isStar ea = false) (hg : S.sc.names.lookup ("isinstance" : Str) = some .globalImplicit) (hk : klsB Pg S ks es = true) (hl : ks.length ≤ 100) (ha : SE cls G W ea a) :
    SE cls G W (.Call (.Name "isinstance" p) [ea, .Tuple es n p2] [] pos) (fun env st => (a env st).b1 fun x st1 => match x with
    | .ref p => match st1[p]? with
      | some (.exc c _) => ofB (subAny Pg c ks) st1
      | _ => .stk
    | _ => .stk) := by
  intro env st as σ H Q h0 h1 hP; dsimp only at hP
  refine ⟨tCB (rIsX K (exX cls.xi)) (tCons (UE G ea) (tCons (tTup (tKs (ks.map (kV' cls)))) tNil)), fun X hX => ?_, ha.go h0 h1 hP fun v st1 as1 w H1 p1 R1 S1 V1 hP1 => ?_⟩
  · have hgl := gl_of hG hX hg
    have hm : X.mg "isinstance" = none := by rw [(hG X hX).1.mg]; exact T.isi
    exact pe_callB (call_isX (hG X hX).1) hgl hm (by kernel_rfl) (pa_cons (pe_U hX) (pa_cons (pe_tup (pa_kls T (hG X hX).1 hk)) pa_nil (star_cons rfl)) (star_cons hs)) (by decide +kernel) (by decide +kernel) (star_cons hs) rfl
  · split at hP1
    · split at hP1
      · rename_i p _ c fs e
        obtain ⟨ad, d, rfl, hxi, xf⟩ := R1.exc V1 e
        cases hb : subAny Pg c ks with
        | none => rw [hb] at hP1; exact hP1.elim
        | some r =>
          rw [hb] at hP1
          refine ⟨by rw [List.length_map, sizeLine_eq]; omega, fun t ht => ?_⟩
          have xd : ∀ dd, d = some dd → ∃ fs, upd H1 t (.tup (ks.map (kV' cls))) dd = some (.xd fs) := by
            rintro dd rfl
            rcases xf with ⟨_, z⟩ | ⟨_, dd', gs, e1, e2, _⟩
            · cases z
            · cases e1
              exact ⟨gs, by rw [upd_ne (ne_of_none e2 ht)]; exact e2⟩
          have R2 := R1.laid (ho := .tup (ks.map (kV' cls))) ht
          obtain ⟨E, kt⟩ := kit_of T hb
          exact ⟨ad, cls c, d, hxi, E, xd, .ref t, r, rfl, .inr ⟨t, _, rfl, upd_same, kt⟩, PV.got (v := .bl r) hP1 R2 rfl⟩
      · exact hP1.elim
    · exact hP1.elim
/-! ### raise -/
theorem ss_raiM (hmo : mo = .on false) (T : Tab P w K mg base cls Pg cf lv) {c m : Str} {j : Nat} {p2 p3 : Pos} (hg : S.sc.names.lookup c = some .globalImplicit) (hd : (c == ("__debug__" : Str)) = false) (hk : Pg.exk c = some none) :
    SS cls G W (.Raise (some (.Call (.Name c p) [.Constant (.str m) j p2] [] p3)) none pos) (fun env st => .exc c [] env st) := by
  have E := T.exk c none hk
  intro env st as σ H D h0 h1 hP
  refine ⟨fun _ σ H => W (.ref (cls c)) none σ H, fun X hX => ?_, hP as σ H (.ref (cls c)) none (List.prefix_refl _) h0 h1 ⟨rfl, .inl ⟨rfl, rfl⟩⟩⟩
  obtain ⟨g, tk⟩ := hG X hX
  have hgl := gl_of hG hX hg
  have k1 := E.kC
  have k2 := E.exC
  have k3 := E.tyC
  have k4 : PySem.W.excIn K (cls c) veMro "ValueError.__new__" = true := E.ini
  rw [← g.k] at k1 k2 k3 k4
  exact ps_raiseB (g.calm hmo) tk (L2N.pmk_own PySem.F.excBase_ValueError k4 (by rw [g.mg]; exact E.gl) k1 (raises_own k2 k3) hgl hd)
/-- X(e) -/
theorem pmk_U (T : Tab P w K mg base cls Pg cf lv) {h : Bool} {c f : Str} {p3 : Pos} (hmo : mo = .on h) (hs : isStar ea = false) (hg : S.sc.names.lookup c = some .globalImplicit) (hd : (c == ("__debug__" : Str)) = false) (hk : Pg.exk c = some (some f)) {X : Cx} (hX : G X) :
    PMk5 X (.Call (.Name c p) [ea] [] p3) (fun σ H Q => UE G ea σ H fun v H1 => ∃ w, [v] = [w] ∧ ∀ d, H1 d = none → Q (.ref (cls c)) (some d) (upd H1 d (.xd [(f, w)]))) := by
  have E := T.exk c (some f) hk
  obtain ⟨ox, hno, aI, fd, ps, iC, tI, hb, F1⟩ := E.ini
  have gl := E.gl
  obtain ⟨g, tk⟩ := hG X hX
  subst hmo
  have hgl := gl_of hG hX hg
  have md := g.md
  have rm : RoomH (1 + 1) X.A := g.room.mono (by have := T.lv1; omega)
  have F2 := F1 h (exX cls.xi)
  rw [← g.mg] at gl
  rw [← g.prog, ← g.w, ← g.k, ← g.mg, ← g.base] at F2
  rw [← g.k] at ox hno iC tI hb
  exact pmk_oxB5 ox iC tI hno F2 rm md hb (fun outer H s u s' z => Out.never z) hgl gl (pe_U hX) hd (star_cons hs)
omit hG in
/-- an exception with a field -/
theorem XR.new {c f : Str} {v w : V} {d : Addr} (R : Rel cls as st H) (r : VR as v w) (hd : H d = none) : XR cls as st c [(f, v)] (.ref (cls c)) (some d) (upd H d (.xd [(f, w)])) := by
  refine ⟨rfl, .inr ⟨(by intro z; cases z), d, [(f, w)], rfl, upd_same, fun i o b h1 h2 h3 => ?_, .cons ⟨rfl, r⟩ .nil⟩⟩
  obtain ⟨u, hu⟩ := R.live h3 h1 h2
  exact ne_of_none hu hd
theorem ss_rai (hmo : mo = .on false) (T : Tab P w K mg base cls Pg cf lv) {c f : Str} {p3 : Pos} (hs : isStar ea = false) (hg : S.sc.names.lookup c = some .globalImplicit) (hd : (c == ("__debug__" : Str)) = false) (hk : Pg.exk c = some (some f)) (ha : SE cls G W ea a) :
    SS cls G W (.Raise (some (.Call (.Name c p) [ea] [] p3)) none pos) (fun env st => (exE (a env st) env).b1 fun v st1 => match Pg.exk c with
    | some (some f) => .exc c [(f, v)] env st1
    | _ => .stk) := by
  intro env st as σ H D h0 h1 hP
  dsimp only at hP
  refine ⟨_, fun X hX => ps_raiseB ((hG X hX).1.calm hmo) (hG X hX).2 (pmk_U hG T hmo hs hg hd hk hX).pmk, ha.gf hG h0 h1 hP fun v st1 as1 w H1 p1 R1 S1 V1 hP1 => ?_⟩
  rw [hk] at hP1
  exact ⟨w, rfl, fun d hd => hP1 as1 σ _ _ _ (List.prefix_refl _) (R1.laid hd) S1 (XR.new R1 V1 hd)⟩
/-- raise X(e) from n -/
theorem ss_raiF (hmo : mo = .on true) (T : Tab P w K mg base cls Pg cf lv) {c f n : Str} {i : Nat} {p3 np : Pos} (hs : isStar ea = false) (hg : S.sc.names.lookup c = some .globalImplicit) (hd : (c == ("__debug__" : Str)) = false) (hk : Pg.exk c = some (some f))
    (hN : S.N[i]? = some n) (hl : S.sc.names.lookup n = some .local) (hdn : (n == ("__debug__" : Str)) = false) (ha : SE cls G W ea a) :
    SS cls G W (.Raise (some (.Call (.Name c p) [ea] [] p3)) (some (.Name n np)) pos) (fun env st => (exE (a env st) env).b1 fun v st1 => match env[i]? with
    | some (some (.ref p)) => match st1[p]? with
      | some (.exc _ _) => match Pg.exk c with
        | some (some f) => if Pg.bad c then .exc c [(f, v)] env st1 else .stk
        | _ => .stk
      | _ => .stk
    | _ => .stk) := by
  intro env st as σ H D h0 h1 hP
  dsimp only at hP
  let Qr : L2.St → Hp → XK → Prop := fun σ H Q => ∃ Qy : VK, UE G ea σ H Qy ∧ ∀ v H1, Qy v H1 → ∀ d, H1 d = none → Q (.ref (cls c)) (some d) (upd H1 d (.xd [(f, v)]))
  refine ⟨fun _ σ H => Qr σ H fun cv d H' => cls.bad cv = true ∧ (∃ a cv' d', σ[i]? = some (some (.ref a)) ∧ exX cls.xi a cv' d') ∧ W cv d σ H', fun X hX => ?_, ?_⟩
  · obtain ⟨g, tk⟩ := hG X hX
    obtain ⟨q, hq1, hq2, hq3⟩ := g.hot hmo
    have hp : HotP X q := ⟨hq1, hq2, by
      obtain ⟨r1, r2⟩ := hq3
      rw [← g.k] at r1 r2
      exact raises_own r1 r2⟩
    have he : PMk5 X (.Call (.Name c p) [ea] [] p3) Qr := by
      intro pins s σ H Q I ⟨Qy, u1, u2⟩
      have k := pmk_U (p := p) (p3 := p3) hG T hmo hs hg hd hk hX
      refine k pins s σ H Q I ?_
      obtain ⟨t, ht, qt⟩ := u1
      refine ⟨fun σ H Q => ∃ Q0 : VK, t σ H Q0 ∧ ∀ v H', Q0 v H' → Q v H', fun Y hY => ⟨fun pins s σ H Q I ⟨Q0, z1, z2⟩ => thn ((ht Y hY).run pins s σ H Q0 I z1) fun u s1 ⟨v, H', I', r, q⟩ => ⟨v, H', I', r, z2 v H' q⟩⟩, Qy, qt, fun v H1 qy => ⟨v, rfl, fun d hd => u2 v H1 qy d hd⟩⟩
    have := ps_raiseFB (pos := pos) (np := np) (i := i) (n := n) hp tk he (by rw [g.n]; exact hN) (by rw [g.scope]; exact hl) hdn
    refine ⟨fun pins s σ H D I h => this.run pins s σ H D I ?_⟩
    obtain ⟨Qy, u1, u2⟩ := h
    refine ⟨Qy, u1, fun v H1 qy d hd => ?_⟩
    obtain ⟨z1, ⟨a, cv', d', z2, z3⟩, z4⟩ := u2 v H1 qy d hd
    refine ⟨z1, ?_, z4⟩
    have e1 := (g.pin a cv' d' z3).1
    have e2 := hq1.1
    rw [e1] at e2
    cases e2
    exact z2
  · refine ⟨_, ha.gf (Q' := fun v H1 => ∀ d, H1 d = none → cls.bad (.ref (cls c)) = true ∧ (∃ a cv' d', σ[i]? = some (some (.ref a)) ∧ exX cls.xi a cv' d') ∧ W (.ref (cls c)) (some d) σ (upd H1 d (.xd [(f, v)]))) hG h0 h1 hP fun v st1 as1 w H1 p1 R1 S1 V1 hP1 => ?_, fun v H1 q d hd => q d hd⟩
    intro d hd
    split at hP1
    · rename_i q eq
      split at hP1
      · rename_i c0 f0 e0
        rw [hk] at hP1
        dsimp only at hP1
        split at hP1
        · rename_i hbad
          obtain ⟨w0, y1, y2⟩ := h1.at_ i _ eq
          obtain ⟨a, d0, rfl, hxi, _⟩ := R1.exc (y2.mono p1) e0
          exact ⟨T.badk c _ hk hbad, ⟨a, _, d0, y1, hxi⟩, hP1 as1 σ _ _ _ (List.prefix_refl _) (R1.laid hd) S1 (XR.new R1 V1 hd)⟩
        · exact hP1.elim
      · exact hP1.elim
    · exact hP1.elim
end
end
end Mi
set_option maxHeartbeats 1000000
/-! Mi: try. -/
namespace Mi
open PySem PySem.Spec PyProof.Rows L2 L2H
/-- what a statement's context also keeps -/
def HDX (X : Cx) : Prop := PassesOwn (model X.prog X.w) X.A X.env X.xe ∧ X.stack = X.env :: X.outer ∧ X.env.frame = some X.env.locals
/-- a clause as the text has it -/
def clB (Pg : Prog) (S : Sc) (c : Str) (n : Option Nat) : ExceptHandler → Bool
  | .ExceptHandler (some (.Name y _)) nm (_ :: _) _ => decide (y = c) && (Pg.kls c && (decide (S.sc.names.lookup c = some .globalImplicit) && (!(c == ("__debug__" : Str)) && (match n, nm with
    | none, none => true
    | some i, some x => decide (S.N[i]? = some x) && decide (S.sc.names.lookup x = some .local)
    | _, _ => false))))
  | _ => false
def clBody : ExceptHandler → List Stmt
  | .ExceptHandler _ _ b _ => b
/-- what is known in a suite -/
def xiS (cls : Cz) (n : Nat) (a : Addr) (cv : Value) (d : Option Addr) : Nat → Addr → Value → Option Addr → Prop := fun j a' cv' d' => if j = n then a' = a ∧ cv' = cv ∧ d' = d else cls.xi j a' cv' d'
def moS (cls : Cz) (cv : Value) : Mo := if cls.bad cv then .ine else .on true
section
variable {P : Program} {w : World} {K : PySem.W.Frag} {mg : Str → Option Value} {base : Heap} {cls : Cz} {Pg : Prog} {cf : Bool → Str → List V → Store → R} {lv : Nat} {S : Sc} {mo : Mo} {G : Cx → Prop} {W : WX}
variable {as : List Addr} {st : Store} {H : Hp} {env : Ev} {σ : L2.St} {pos : Pos} {X : Cx}
def GS (P : Program) (w : World) (K : PySem.W.Frag) (mg : Str → Option Value) (base : Heap) (cls : Cz) (lv : Nat) (S : Sc) (n : Nat) (a : Addr) (cv : Value) (d : Option Addr) (W : WX) : Cx → Prop := fun Y => (GX P w K mg base (cls.x (xiS cls n a cv d)) (lv + 1) S (moS cls cv) Y ∧ Tk cls.bad Y W) ∧ HDX Y
def GT (P : Program) (w : World) (K : PySem.W.Frag) (mg : Str → Option Value) (base : Heap) (cls : Cz) (lv : Nat) (S : Sc) (W : WX) : Cx → Prop := fun Y => (GX P w K mg base cls (lv + 1) S (.on false) Y ∧ Tk cls.bad Y W) ∧ HDX Y
def tsS (P : Program) (w : World) (K : PySem.W.Frag) (mg : Str → Option Value) (base : Heap) (cls : Cz) (lv : Nat) (S : Sc) (W : WX) (st : List Stmt) (a : Addr) (cv : Value) (d : Option Addr) : TS := fun D σ H => rsK K cv ∧ ∃ n, USs (GS P w K mg base cls lv S n a cv d W) st D σ H
theorem suite_ok (g : GX P w K mg base cls (lv + 1) S (.on false) X) (hD : HDX X) {b : List Stmt} : SuiteOk cls.bad X W b (tsS P w K mg base cls lv S W b) := by
  intro a oe cv d pn xe sub hz hfl tk own
  refine ⟨fun pins s σ H D I ⟨rs, n, t, ht, q⟩ => (ht _ ?_).run pins s σ H D I q⟩
  have mem : (a, oe) ∈ (a, oe) :: pn := List.mem_cons_self
  refine ⟨⟨⟨g.prog, g.w, g.k, g.mg, g.base, g.n, g.nd, g.scope, g.kind, fun e => ?_, fun e => ?_, fun e => ?_, ?_, ⟨g.room.dp, g.room.un⟩, g.own, let ⟨e0, r0, t⟩ := g.top; ⟨e0, r0, t.st, t.fr, t.top⟩⟩, tk⟩, own, hD.2⟩
  · unfold moS at e
    split at e <;> cases e
  · unfold moS at e
    split at e <;> cases e
  · unfold moS at e
    split at e
    · cases e
    · rename_i hb
      obtain ⟨vs, hv⟩ := hfl
      have hc := hz.2.2 (by simpa using hb)
      refine ⟨(a, oe), ⟨rfl, vs, hv, hc vs hv⟩, mem, ?_⟩
      rw [hz.1]
      exact rs
  · rintro a' cv' d' ⟨j, hj⟩
    have hj : xiS cls n a cv d j a' cv' d' := hj
    unfold xiS at hj
    split at hj
    · obtain ⟨rfl, rfl, rfl⟩ := hj
      exact ⟨rfl, oe, mem, hz, hfl⟩
    · have := (g.pin a' cv' d' ⟨j, hj⟩).1
      rw [g.hd0 rfl] at this
      cases this
theorem gx_tr {pn : List (Addr × Obj)} {xe : Value → Shared → Prop} (g : GX P w K mg base cls lv S (.on false) X) : GX P w K mg base cls lv S (.on false) (X.tr pn xe) := by
  refine ⟨g.prog, g.w, g.k, g.mg, g.base, g.n, g.nd, g.scope, g.kind, g.calm, g.hd0, (fun e => by cases e), fun a cv d z => ?_, g.room, g.own, ?_⟩
  · have := (g.pin a cv d z).1
    rw [g.hd0 rfl] at this
    cases this
  · obtain ⟨e0, r0, t⟩ := g.top
    exact ⟨e0, r0, t.st, t.fr, t.top⟩
def enO (D : Ends) : Option Nat → Ends
  | none => D
  | some i => gone D i
def slO (σ : L2.St) (v : V) : Option Nat → L2.St
  | none => σ
  | some i => σ.set i (some v)
def slW (σ : L2.St) : Option Nat → L2.St
  | none => σ
  | some i => σ.set i none
/-- the end of a suite, in the suite's terms -/
theorem PF.sui {a : Addr} {cv : Value} {d : Option Addr} {f : Mo → Ev → Store → R} {n : Option Nat} {c : Str} {fs : List (Str × V)} {D : Ends} {as0 : List Addr} (hp : as <+: as0) (hl : as.length ≤ st.length)
    (hP : PF cls as (suiR Pg f n c fs env st) D W) :
    PF (cls.x (xiS cls st.length a cv d)) as0 (f (if Pg.bad c then .ine else .on true) (setO env n (.ref st.length)) (st ++ [.exc c fs])) (enO D n) (goneW W n) := by
  unfold suiR at hP
  have back : ∀ {as' : List Addr} {st2 : Store} {H' : Hp}, Rel (cls.x (xiS cls st.length a cv d)) as' st2 H' → Rel cls as' (st2.set st.length .dead) H' := fun {as' st2 H'} R => by
    have R2 := R.kill (i := st.length)
    refine Rel.xi (cls := cls.x (xiS cls st.length a cv d)) (xi := cls.xi) R2 fun i c fs a' d' e z => ?_
    have z : xiS cls st.length a cv d i a' (.ref (cls c)) d' := z
    unfold xiS at z
    rcases set_get e with ⟨_, e2⟩ | ⟨e1, _⟩
    · cases e2
    · rw [if_neg e1] at z
      exact z
  have wip : ∀ {as' : List Addr} {env2 : Ev} {σ' : L2.St}, SR as' env2 σ' → SR as' (wipeO env2 n) (slW σ' n) := fun {as' env2 σ'} s => by
    cases n with
    | none => exact s
    | some i => exact s.unset i
  cases q : f (if Pg.bad c then .ine else .on true) (setO env n (.ref st.length)) (st ++ [.exc c fs]) with
  | nxt env2 st2 =>
    rw [q] at hP
    intro as' σ' H' p' R' S'
    have := hP as' _ H' (hp.trans p') (back R') (wip S')
    cases n <;> exact this
  | ret v st2 =>
    rw [q] at hP
    intro as' w' H' p' R' V'
    have := hP as' w' H' (hp.trans p') (back R') V'
    cases n <;> exact this
  | exc c2 fs2 env2 st2 =>
    rw [q] at hP
    intro as' σ' H' cv2 d2 p' R' S' x'
    have := hP as' _ H' cv2 d2 (hp.trans p') (back R') (wip S') ⟨x'.1, x'.2.kill⟩
    cases n <;> exact this
  | val vs st2 => rw [q] at hP; exact hP.elim
  | stk => rw [q] at hP; exact hP.elim
/-- what a clause's reading gets -/
theorem catch_ok {suite : List Stmt} {f : Mo → Ev → Store → R} {n : Option Nat} {c : Str} {fs : List (Str × V)} {D : Ends} {d : Option Addr} {a : Addr} (T : Tab P w K mg base cls Pg cf lv) {k : Str} {r : Bool} (hsub : Pg.sub c k = some r)
    (hs : ∀ xi mo' (G' : Cx → Prop) (W' : WX), (∀ Y, G' Y → GX P w K mg base (cls.x xi) (lv + 1) S mo' Y ∧ Tk cls.bad Y W') → (∀ Y, G' Y → HDX Y) → SSs (cls.x xi) G' W' suite (f mo'))
    (R : Rel cls as st H) (s : SR as env σ) (xf : XF as st fs d H) (ha : H a = none) (hP : PF cls as (suiR Pg f n c fs env st) D W) :
    tsS P w K mg base cls lv S (goneW W n) suite a (.ref (cls c)) d (enO D n) (slO σ (.ref a) n) H := by
  have E := T.sub c k r hsub
  have R1 : Rel (cls.x (xiS cls st.length a (.ref (cls c)) d)) as st H := R.xi fun i c' fs' a' d' e z => by
    show xiS cls st.length a (.ref (cls c)) d i a' (.ref (cls c')) d'
    unfold xiS
    rw [if_neg (Nat.ne_of_lt (List.getElem?_eq_some_iff.mp e).1)]
    exact z
  have R2 : Rel (cls.x (xiS cls st.length a (.ref (cls c)) d)) (as ++ [a]) (st ++ [.exc c fs]) H := R1.pushO (fun _ _ e => e) (fun z => by cases z) trivial fun c' fs' e => by
    cases e
    refine ⟨d, ?_, xf.keep pre_snoc fun dd gs e n => ⟨e, fun i o b q1 q2 q3 => ?_⟩⟩
    · show xiS cls st.length a (.ref (cls c)) d st.length a (.ref (cls c)) d
      unfold xiS
      rw [if_pos rfl]
      exact ⟨rfl, rfl, rfl⟩
    · rcases snoc_get q1 with ⟨i1, i2⟩ | ⟨i1, i2⟩
      · rcases snoc_ad R q3 with ⟨_, a3⟩ | ⟨a3, _⟩
        · exact n i o b i2 q2 a3
        · omega
      · rw [i2] at q2
        cases q2
  have S2 : SR (as ++ [a]) (setO env n (.ref st.length)) (slO σ (.ref a) n) := by
    cases n with
    | none => exact s.mono pre_snoc
    | some i => exact (s.mono pre_snoc).set (VR.new R) i
  have hmo : (if Pg.bad c then Mo.ine else .on true) = moS cls (.ref (cls c)) := by
    unfold moS
    rw [T.bad c k r hsub]
  have hP2 := PF.sui (a := a) (cv := .ref (cls c)) (d := d) (as0 := as ++ [a]) pre_snoc (Nat.le_of_eq R.len) hP
  rw [hmo] at hP2
  exact ⟨E.rs, st.length, hs _ (moS cls (.ref (cls c))) _ (goneW W n) (fun Y hY => hY.1) (fun Y hY => hY.2) _ _ _ _ H _ R2 S2 hP2⟩
theorem clB_ok {X : Cx} {c : Str} {n : Option Nat} {h : ExceptHandler} (g : GX P w K mg base cls (lv + 1) S (.on false) X) (hD : HDX X) (T : Tab P w K mg base cls Pg cf lv) (hb : clB Pg S c n h = true) {hs : List ExceptHandler} {l : List Cl} (r : ClsOk cls.bad X W hs l) :
    ClsOk cls.bad X W (h :: hs) (⟨clsV cls c, n, tsS P w K mg base cls lv S (goneW W n) (clBody h)⟩ :: l) := by
  unfold clB at hb
  split at hb
  · rename_i y np nm b₀ bs p2
    obtain ⟨h1, hb⟩ := Bool.and_eq_true_iff.mp hb
    obtain ⟨h2, hb⟩ := Bool.and_eq_true_iff.mp hb
    obtain ⟨h3, hb⟩ := Bool.and_eq_true_iff.mp hb
    obtain ⟨h4, h5⟩ := Bool.and_eq_true_iff.mp hb
    cases of_decide_eq_true h1
    have hk := T.kls _ h2
    have hn : Names X c (clsV cls c) := by
      refine ⟨?_, by simpa using h4, ?_⟩
      · show X.env.scope.names.lookup c = some .globalImplicit
        rw [g.scope]
        exact of_decide_eq_true h3
      · unfold clsV
        split at hk
        · rename_i e
          subst e
          rw [if_pos rfl]
          exact .inr ⟨by rw [g.mg]; exact hk, by kernel_rfl, by decide +kernel⟩
        · rename_i e
          rw [if_neg e]
          exact .inl (by rw [g.mg]; exact hk)
    split at h5
    · exact .only hn (suite_ok g hD) r
    · obtain ⟨h6, h7⟩ := Bool.and_eq_true_iff.mp h5
      refine .as_ hn (by rw [g.n]; exact of_decide_eq_true h6) ?_ (suite_ok g hD) r
      show X.env.scope.names.lookup _ = some .local
      rw [g.scope]
      exact of_decide_eq_true h7
    · cases h5
  · cases hb
section
variable (hG : ∀ X, G X → GX P w K mg base cls (lv + 1) S mo X ∧ Tk cls.bad X W)
include hG
/-- the clauses -/
def cl2 (P : Program) (w : World) (K : PySem.W.Frag) (mg : Str → Option Value) (base : Heap) (cls : Cz) (lv : Nat) (S : Sc) (W : WX) (c1 : Str) (n1 : Option Nat) (b1 : List Stmt) : Option (Str × Option Nat) → List Stmt → List Cl
  | none, _ => [⟨clsV cls c1, n1, tsS P w K mg base cls lv S (goneW W n1) b1⟩]
  | some (c2, n2), b2 => [⟨clsV cls c1, n1, tsS P w K mg base cls lv S (goneW W n1) b1⟩, ⟨clsV cls c2, n2, tsS P w K mg base cls lv S (goneW W n2) b2⟩]
def hdB (Pg : Prog) (S : Sc) (c1 : Str) (n1 : Option Nat) : Option (Str × Option Nat) → List ExceptHandler → Bool
  | none, [h1] => clB Pg S c1 n1 h1
  | some (c2, n2), [h1, h2] => clB Pg S c1 n1 h1 && clB Pg S c2 n2 h2
  | _, _ => false
def hd1 : List ExceptHandler → List Stmt
  | h :: _ => clBody h
  | [] => []
def hd2 : List ExceptHandler → List Stmt
  | _ :: h :: _ => clBody h
  | _ => []
theorem ss_tri (hmo : mo = .on false) (T : Tab P w K mg base cls Pg cf lv) (hD : ∀ X, G X → HDX X) {body orelse : List Stmt} {hs : List ExceptHandler} {c1 : Str} {n1 : Option Nat} {o2 : Option (Str × Option Nat)} {b oe : Ev → Store → R} {f1 f2 : Mo → Ev → Store → R} (hc : hdB Pg S c1 n1 o2 hs = true)
    (hb : ∀ (G' : Cx → Prop) (W' : WX), (∀ Y, G' Y → GX P w K mg base cls (lv + 1) S (.on false) Y ∧ Tk cls.bad Y W') → (∀ Y, G' Y → HDX Y) → SSs cls G' W' body b)
    (h1 : ∀ xi mo' (G' : Cx → Prop) (W' : WX), (∀ Y, G' Y → GX P w K mg base (cls.x xi) (lv + 1) S mo' Y ∧ Tk cls.bad Y W') → (∀ Y, G' Y → HDX Y) → SSs (cls.x xi) G' W' (hd1 hs) (f1 mo'))
    (h2 : ∀ xi mo' (G' : Cx → Prop) (W' : WX), (∀ Y, G' Y → GX P w K mg base (cls.x xi) (lv + 1) S mo' Y ∧ Tk cls.bad Y W') → (∀ Y, G' Y → HDX Y) → SSs (cls.x xi) G' W' (hd2 hs) (f2 mo'))
    (ho : SSs cls G W orelse oe) : SS cls G W (.Try body hs orelse [] pos) (fun env st => triR Pg c1 n1 o2 f1 f2 oe (b env st)) := by
  intro env st as σ H D hR hS hP
  dsimp only at hP
  obtain ⟨l, hl⟩ : ∃ l, l = cl2 P w K mg base cls lv S W c1 n1 (hd1 hs) o2 (hd2 hs) := ⟨_, rfl⟩
  refine ⟨fun D σ H => USs (GT P w K mg base cls lv S (wCls K W D l)) body { D with nx := USs G orelse D } σ H, fun X hX => ?_, ?_⟩
  · obtain ⟨g, tk⟩ := hG X hX
    subst hmo
    have hd := hD X hX
    have key : ∀ {h0 : ExceptHandler} {hds : List ExceptHandler}, hs = h0 :: hds → ClsOk cls.bad X W (h0 :: hds) l → PS X (.Try body hs orelse [] pos) (fun D σ H => USs (GT P w K mg base cls lv S (wCls K W D l)) body { D with nx := USs G orelse D } σ H) := fun {h0 hds} e hcl => by
      subst e
      have := ps_tryB (bad := cls.bad) (pos := pos) (tb := fun W' => USs (GT P w K mg base cls lv S W') body) (u := USs G orelse) (Wout := W) (pss_U hX) hd.2.1 hd.2.2 (by rw [g.n]; exact g.nd) tk (fun W' pn xe sub tk' own => pss_U ⟨⟨gx_tr g, tk'⟩, own, hd.2⟩) hcl
      rw [g.k] at this
      exact this
    cases o2 with
    | none =>
      match hs, hc with
      | [h0], hc => exact key rfl (by rw [hl]; exact clB_ok (W := W) g hd T hc .nil)
      | [], hc => cases hc
      | _ :: _ :: _, hc => cases hc
    | some q =>
      match hs, hc with
      | [h0, h3], hc =>
        obtain ⟨k1, k2⟩ := Bool.and_eq_true_iff.mp (show (clB Pg S c1 n1 h0 && clB Pg S q.1 q.2 h3) = true from hc)
        exact key rfl (by rw [hl]; exact clB_ok (W := W) g hd T k1 (clB_ok (W := W) g hd T k2 .nil))
      | [], hc => cases hc
      | [_], hc => cases hc
      | _ :: _ :: _ :: _, hc => cases hc
  · refine hb _ (wCls K W D l) (fun Y hY => hY.1) (fun Y hY => hY.2) env st as σ H _ hR hS ?_
    cases q : b env st with
    | nxt env1 st1 =>
      rw [q] at hP
      exact fun as' σ' H' p' R' S' => ho env1 st1 as' σ' H' D R' S' (PF.mono p' hP)
    | ret v st1 =>
      rw [q] at hP
      exact hP
    | val vs st1 => rw [q] at hP; exact hP.elim
    | stk => rw [q] at hP; exact hP.elim
    | exc c fs env1 st1 =>
      rw [q] at hP
      rintro as' σ' H' cv d p' R' S' ⟨rfl, xf⟩
      have hP := PF.mono p' hP
      unfold triR at hP
      dsimp only at hP
      cases e1 : Pg.sub c c1 with
      | none => rw [e1] at hP; exact hP.elim
      | some r1 =>
        rw [e1] at hP
        have E1 := (T.sub c c1 r1 e1).em
        cases r1 with
        | true =>
          have z := fun a ha => catch_ok (a := a) T e1 h1 R' S' xf ha hP
          have z : wCls K W D l (.ref (cls c)) d σ' H' := by
            rw [hl]
            cases o2 with
            | none => exact ⟨true, E1, (fun _ a ha => by have z := z a ha; cases n1 <;> exact z), fun e => by cases e⟩
            | some q2 => exact ⟨true, E1, (fun _ a ha => by have z := z a ha; cases n1 <;> exact z), fun e => by cases e⟩
          exact z
        | false =>
          cases o2 with
          | none =>
            show wCls K W D l (.ref (cls c)) d σ' H'
            rw [hl]
            exact ⟨false, E1, (fun e => by cases e), fun _ => hP as' σ' H' _ d (List.prefix_refl _) R' S' ⟨rfl, xf⟩⟩
          | some q2 =>
            obtain ⟨c2, n2⟩ := q2
            dsimp only at hP
            show wCls K W D l (.ref (cls c)) d σ' H'
            rw [hl]
            refine ⟨false, E1, (fun e => by cases e), fun _ => ?_⟩
            cases e2 : Pg.sub c c2 with
            | none => rw [e2] at hP; exact hP.elim
            | some r2 =>
              rw [e2] at hP
              have E2 := (T.sub c c2 r2 e2).em
              cases r2 with
              | true => exact ⟨true, E2, (fun _ a ha => by have z := catch_ok (a := a) T e2 h2 R' S' xf ha hP; cases n2 <;> exact z), fun e => by cases e⟩
              | false => exact ⟨false, E2, (fun e => by cases e), fun _ => hP as' σ' H' _ d (List.prefix_refl _) R' S' ⟨rfl, xf⟩⟩
end
end
end Mi
set_option maxHeartbeats 400000
/-! Mi: the text against the terms; every piece keeps to its run. -/
namespace Mi
open PySem PySem.Spec PyProof.Rows L2 L2H

/-- a piece of the text -/
inductive Syn where
  | e (x : Expr)
  | es (xs : List Expr)
  | o (x : Option Expr)
  | fs (xs : List Expr)
  | s (x : Stmt)
  | ss (xs : List Stmt)

def visB (sc : Scope) (x : Str) : Bool := match sc.names.lookup x with
  | some .local => true
  | some .cell => true
  | some .free => true
  | _ => false
theorem visB_ok {sc : Scope} {x : Str} (h : visB sc x = true) : Vis sc x := by
  unfold visB at h
  split at h
  · exact .inl (by assumption)
  · exact .inr (.inl (by assumption))
  · exact .inr (.inr (by assumption))
  · cases h
def glB (sc : Scope) (x : Str) : Bool := (match sc.names.lookup x with
  | some .globalImplicit => true
  | _ => false) && !(x == ("__debug__" : Str))
theorem glB_ok {sc : Scope} {x : Str} (h : glB sc x = true) : sc.names.lookup x = some .globalImplicit ∧ (x == ("__debug__" : Str)) = false := by
  obtain ⟨h1, h2⟩ := Bool.and_eq_true_iff.mp h
  refine ⟨?_, by simpa using h2⟩
  split at h1
  · assumption
  · cases h1
def cstB : Const → V → Bool
  | .none, .non => true
  | .bool b, .bl c => b == c
  | .int i, .int l => decide (i = l)
  | .str s, .str t => decide (s = t)
  | _, _ => false
def topB (Pg : Prog) (f : Str) : Bool := match Pg.fn f with
  | some F => F.top
  | none => false
def ownB (scope : Scope) (own : List Str) : Bool := own.all fun x => match scope.names.lookup x with
  | some .local => true
  | some .cell => true
  | _ => false
theorem ownB_ok {scope : Scope} {own : List Str} (h : ownB scope own = true) : ∀ x ∈ own, scope.names.lookup x = some .local ∨ scope.names.lookup x = some .cell := fun x hx => by
  have := List.all_eq_true.mp h x hx
  split at this
  · exact .inl (by assumption)
  · exact .inr (by assumption)
  · cases this
def funB (scope : Scope) : Bool := match scope.kind with
  | .function => true
  | _ => false
theorem funB_ok {scope : Scope} (h : funB scope = true) : scope.kind = .function := by
  unfold funB at h
  split at h
  · assumption
  · cases h
def notIf : Expr → Bool
  | .IfExp _ _ _ _ => false
  | _ => true
def notNev : T → Bool
  | .nev => false
  | _ => true
def pairs (N : List Str) (own : List Nat) : List (Str × Nat) := own.map fun i => (N.getD i Str.empty, i)
theorem pairs_snd (N : List Str) (own : List Nat) : (pairs N own).map (·.2) = own := by
  unfold pairs
  rw [List.map_map]
  exact List.map_id _

def exkB (Pg : Prog) (c : Str) : Bool := match Pg.exk c with
  | some (some _) => true
  | _ => false
theorem exkB_ok {Pg : Prog} {c : Str} (h : exkB Pg c = true) : ∃ f, Pg.exk c = some (some f) := by
  unfold exkB at h
  split at h
  · exact ⟨_, by assumption⟩
  · cases h
section
variable (Pg : Prog)
def chk : T → Sc → Syn → Bool
  | .nev, _, _ => true
  | .var i, S, .e (.Name x _) => decide (S.N[i]? = some x) && (visB S.sc x && (!(x == ("__debug__" : Str)) && !(x == ("__classdict__" : Str))))
  | .cst v, _, .e (.Constant k _ _) => cstB k v
  | .glo x, S, .e (.Name y _) => decide (x = y) && glB S.sc y
  | .bin op a b, S, .e (.BinOp ea op' eb _) => decide (op = op') && (chk a S (.e ea) && chk b S (.e eb))
  | .neg a, S, .e (.UnaryOp .USub ea _) => chk a S (.e ea)
  | .not a, S, .e (.UnaryOp .Not ea _) => notIf ea && chk a S (.e ea)
  | .and a b, S, .e (.BoolOp .And (ea :: eb :: rest) pos) => notIf ea && (chk a S (.e ea) && (match rest with
    | [] => notIf eb && chk b S (.e eb)
    | r :: rs => chk b S (.e (.BoolOp .And (eb :: r :: rs) pos))))
  | .or a b, S, .e (.BoolOp .Or (ea :: eb :: rest) pos) => notIf ea && (chk a S (.e ea) && (match rest with
    | [] => notIf eb && chk b S (.e eb)
    | r :: rs => chk b S (.e (.BoolOp .Or (eb :: r :: rs) pos))))
  | .cmp op a b, S, .e (.Compare ea [op'] [eb] _) => decide (op = op') && (!(behindInMarks op eb) && (chk a S (.e ea) && chk b S (.e eb)))
  | .cmp2 op op2 a b c, S, .e (.Compare ea [o1, o2] [eb, ec] _) => decide (op = o1) && (decide (op2 = o2) && (!(lastMarks [op, op2] [eb, ec]) && (chk a S (.e ea) && (chk b S (.e eb) && chk c S (.e ec)))))
  | .isc a k, S, .e (.Call (.Name g _) [ea, .Name u _] [] _) => decide (g = ("isinstance" : Str)) && (decide (u = k) && (Pg.kls k && (!(isStar ea) && (glB S.sc g && (glB S.sc k && chk a S (.e ea))))))
  | .iscs a ks, S, .e (.Call (.Name g _) [ea, .Tuple us _ _] [] _) => decide (g = ("isinstance" : Str)) && (klsB Pg S ks us && (decide (ks.length ≤ 100) && (!(isStar ea) && (glB S.sc g && chk a S (.e ea)))))
  | .ife c a b, S, .e (.IfExp ec ea eb _) => notIf ec && (chk c S (.e ec) && (chk a S (.e ea) && chk b S (.e eb)))
  | .nil, _, .es [] => true
  | .nil, _, .o none => true
  | .nil, _, .fs [] => true
  | .cons a as, S, .es (ea :: es) => !(isStar ea) && (chk a S (.e ea) && chk as S (.es es))
  | .som a, S, .o (some ea) => chk a S (.e ea)
  | .som a, S, .fs [ea] => notIf ea && chk a S (.e ea)
  | .tup as, S, .e (.Tuple es _ _) => chk as S (.es es)
  | .lst as, S, .e (.List es _) => chk as S (.es es)
  | .dic0, _, .e (.Dict [] [] _) => true
  | .call f as, S, .e (.Call (.Name g _) es [] _) => decide (f = g) && (noStar es && (glB S.sc g && (topB Pg g && chk as S (.es es))))
  | .bif f as, S, .e (.Call (.Name g _) (ea :: es) [] _) => decide (g = biN f) && (noStar (ea :: es) && (glB S.sc g && chk as S (.es (ea :: es))))
  | .isi a t, S, .e (.Call (.Name g _) [ea, .Name u _] [] _) => decide (g = ("isinstance" : Str)) && (decide (u = tyN t) && (Pg.ty u && decide (t ≠ .none) && (!(isStar ea) && (glB S.sc g && (glB S.sc u && chk a S (.e ea))))))
  | .meth m o as, S, .e (.Call (.Attribute eo m' apos) es [] pos) => decide (m = m') && (plainBase eo && (noStar es && ((apos.endLine == pos.line) && (decide (es.length < 30) && (chk o S (.e eo) && chk as S (.es es))))))
  | .bm t o as, S, .e (.Call (.Attribute eo m' apos) es [] pos) => decide (m' = mtN t) && (plainBase eo && (noStar es && ((apos.endLine == pos.line) && ((decide (es.length < 29) && notNev as) && (chk o S (.e eo) && chk as S (.es es))))))
  | .mk c as, S, .e (.Call (.Name g _) es [] _) => decide (c = g) && (noStar es && (glB S.sc g && (Pg.made g && ((Pg.meth g "__init__").isSome && chk as S (.es es)))))
  | .cm c m as, S, .e (.Call (.Attribute (.Name g _) m' apos) es [] pos) => decide (c = g) && (decide (m = m') && (noStar es && ((apos.endLine == pos.line) && (decide (es.length < 30) && (glB S.sc g && ((Pg.cm c m).isSome && chk as S (.es es)))))))
  | .lset a, S, .e (.Call (.Name g _) [.Call (.Name g2 _) [ea] [] _] [] _) => decide (g = ("len" : Str)) && (decide (g2 = ("set" : Str)) && (glB S.sc g && (glB S.sc g2 && (!(isStar ea) && chk a S (.e ea)))))
  | .lrev a, S, .e (.Call (.Name g _) [.Call (.Name g2 _) [ea] [] _] [] _) => decide (g = ("list" : Str)) && (decide (g2 = ("reversed" : Str)) && (glB S.sc g && (glB S.sc g2 && (!(isStar ea) && chk a S (.e ea)))))
  | .rsl a, S, .e (.Subscript ea (.Slice none none (some (.UnaryOp .USub (.Constant (.int i) _ _) _)) _) _) => decide (i = 1) && chk a S (.e ea)
  | .fld o f, S, .e (.Attribute eo f' _) => decide (f = f') && (plainBase eo && chk o S (.e eo))
  | .fldX o f, S, .e (.Attribute eo f' _) => decide (f = f') && (plainBase eo && chk o S (.e eo))
  | .idx a i, S, .e (.Subscript ea ei _) => noSlice ei && (chk a S (.e ea) && chk i S (.e ei))
  | .slc a lo hi, S, .e (.Subscript ea (.Slice l h none _) _) => chk a S (.e ea) && (chk lo S (.o l) && chk hi S (.o h))
  | .lc own tg k a ifs e, S, .e (.ListComp elt [⟨tgE, iter, ifsE, asy⟩] scope _) => decide (asy = 0) && (notSet iter && (blkC S.N S.sc scope (pairs S.N own) && (funB scope && (ownB scope ((pairs S.N own).map (·.1)) && (tgB S.N ((pairs S.N own).map (·.1)) tg tgE && (decide (∀ j ∈ tgSlots tg, j ∈ own) && ((match k, iter with
      | .seq, x => chk a S (.e x)
      | .rng1, .Call (.Name g _) [x] [] _ => decide (g = ("range" : Str)) && (glB S.sc g && (!(isStar x) && chk a S (.es [x])))
      | .rng2, .Call (.Name g _) [x, y] [] _ => decide (g = ("range" : Str)) && (glB S.sc g && (!(isStar x) && (!(isStar y) && chk a S (.es [x, y]))))
      | .rngd, .Call (.Name g _) [x, y, z] [] _ => decide (g = ("range" : Str)) && (glB S.sc g && (!(isStar x) && (!(isStar y) && (!(isStar z) && chk a S (.es [x, y, z])))))
      | .enum1, .Call (.Name g _) [x] [⟨some kn, .Constant (.int i) _ _, _⟩] _ => decide (g = ("enumerate" : Str)) && (decide (kn = ("start" : Str)) && (decide (i = 1) && (tupB tgE && (glB S.sc g && (!(isStar x) && chk a S (.es [x]))))))
      | _, _ => false) && (chk ifs (blkS S scope ((pairs S.N own).map (·.1))) (.fs ifsE) && chk e (blkS S scope ((pairs S.N own).map (·.1))) (.e elt)))))))))
  | .don, _, .ss [] => true
  | .don, _, .s (.Pass _) => true
  | .seq a b, S, .ss (s :: ss) => chk a S (.s s) && chk b S (.ss ss)
  | .asgN i e, S, .s (.Assign [.Name x _] ea _) => decide (S.N[i]? = some x) && (decide (x ∈ S.own) && chk e S (.e ea))
  | .asgT is e, S, .s (.Assign [.Tuple ts k p] ea _) => plainVal ea && (notTup ea && (tgB S.N S.own (.t is) (.Tuple ts k p) && chk e S (.e ea)))
  | .asgF o f e, S, .s (.Assign [.Attribute eo f' _] ea _) => decide (f = f') && (plainVal ea && (plainBase eo && (chk o S (.e eo) && chk e S (.e ea))))
  | .asgI o i e, S, .s (.Assign [.Subscript eo ei _] ea _) => noSlice ei && (chk o S (.e eo) && (chk i S (.e ei) && chk e S (.e ea)))
  | .aug i op e, S, .s (.AugAssign (.Name x _) op' ea _) => decide (op = op') && (decide (S.N[i]? = some x) && (decide (x ∈ S.own) && chk e S (.e ea)))
  | .augF o f e, S, .s (.AugAssign (.Attribute eo f' _) .Sub ea _) => decide (f = f') && (chk o S (.e eo) && chk e S (.e ea))
  | .drop e, S, .s (.Expr ea _) => plainVal ea && chk e S (.e ea)
  | .ret e, S, .s (.Return (some ea) _) => chk e S (.e ea)
  | .retN, _, .s (.Return none _) => true
  | .ifs c a b, S, .s (.If ec p q _) => notIf ec && (chk c S (.e ec) && (chk a S (.ss p) && chk b S (.ss q)))
  | .for tg k a b, S, .s (.For tgE iter body [] _) => notSet iter && (tgB S.N S.own tg tgE && ((match k, iter with
      | .seq, x => chk a S (.e x)
      | .rng1, .Call (.Name g _) [x] [] _ => decide (g = ("range" : Str)) && (glB S.sc g && (!(isStar x) && chk a S (.es [x])))
      | .rng2, .Call (.Name g _) [x, y] [] _ => decide (g = ("range" : Str)) && (glB S.sc g && (!(isStar x) && (!(isStar y) && chk a S (.es [x, y]))))
      | .rngd, .Call (.Name g _) [x, y, z] [] _ => decide (g = ("range" : Str)) && (glB S.sc g && (!(isStar x) && (!(isStar y) && (!(isStar z) && chk a S (.es [x, y, z])))))
      | .enum1, .Call (.Name g _) [x] [⟨some kn, .Constant (.int i) _ _, _⟩] _ => decide (g = ("enumerate" : Str)) && (decide (kn = ("start" : Str)) && (decide (i = 1) && (tupB tgE && (glB S.sc g && (!(isStar x) && chk a S (.es [x]))))))
      | _, _ => false) && chk b S (.ss body)))
  | .raiM c, S, .s (.Raise (some (.Call (.Name g _) [.Constant (.str _) _ _] [] _)) none _) => decide (c = g) && (glB S.sc c && decide (Pg.exk c = some none))
  | .rai c a, S, .s (.Raise (some (.Call (.Name g _) [ea] [] _)) none _) => decide (c = g) && (glB S.sc c && (exkB Pg c && (!(isStar ea) && chk a S (.e ea))))
  | .raiF c a i, S, .s (.Raise (some (.Call (.Name g _) [ea] [] _)) (some (.Name n _)) _) => decide (c = g) && (glB S.sc c && (exkB Pg c && (!(isStar ea) && (decide (S.N[i]? = some n) && (decide (S.sc.names.lookup n = some .local) && (!(n == ("__debug__" : Str)) && chk a S (.e ea)))))))
  | .tri b c1 n1 s1 o2 s2 oe, S, .s (.Try body hs orelse [] _) => hdB Pg S c1 n1 o2 hs && (chk b S (.ss body) && (chk s1 S (.ss (hd1 hs)) && (chk s2 S (.ss (hd2 hs)) && chk oe S (.ss orelse))))
  | .whl c b, S, .s (.While ec body [] _) => notIf ec && (chk c S (.e ec) && chk b S (.ss body))
  | _, _, _ => false
end
end Mi
set_option maxHeartbeats 400000
/-! Mi: the text against the terms, sound. -/
namespace Mi
open PySem PySem.Spec PyProof.Rows L2 L2H
theorem and2 {a b : Bool} (h : (a && b) = true) : a = true ∧ b = true := Bool.and_eq_true_iff.mp h
theorem notT {a : Bool} (h : (!a) = true) : a = false := by simpa using h
theorem dcd {p : Prop} [Decidable p] (h : decide p = true) : p := of_decide_eq_true h

section
variable {P : Program} {w : World} {K : PySem.W.Frag} {mg : Str → Option Value} {base : Heap} {cls : Cz} {Pg : Prog} {cf : Bool → Str → List V → Store → R} {lv : Nat} {S : Sc} {mo : Mo} {G : Cx → Prop} {W : WX}
variable {e ea eb ec eo tgE iter elt : Expr} {es ifs : List Expr} {a b c o : Ev → Store → R} {x m : Str} {pos p apos : Pos}
section
variable (hG : ∀ X, G X → GX P w K mg base cls (lv + 1) S mo X ∧ Tk cls.bad X W)
include hG
/-- a test of a comparison: its value is a truth value -/
theorem cmpD_bl {op : CmpOp} {x y : V} {st : Store} {Qx : VK} {X : XK} {as : List Addr} {Qb : Bool → Hp → Prop} (h : PT' cls as (cmpD op x y st) Qb X) : PV cls as (cmpD op x y st) (fun z H => ∃ k, z = .bl k ∧ Qb k H) X := by
  have ob : ∀ (r : Option Bool), PT' cls as (ofB r st) Qb X → PV cls as (ofB r st) (fun z H => ∃ k, z = .bl k ∧ Qb k H) X := fun r h => by
    cases r with
    | none => exact h.elim
    | some k =>
      obtain ⟨b, hb, k2⟩ := h
      have : k = b := Option.some.inj hb
      subst this
      exact fun as' w H' p R1 r => ⟨k, r, k2 as' H' p R1⟩
  have on : ∀ (k : Bool), PT' cls as (one (.bl k) st) Qb X → PV cls as (one (.bl k) st) (fun z H => ∃ k, z = .bl k ∧ Qb k H) X := fun k h => ob (some k) h
  cases op
  case Eq => exact ob _ h
  case NotEq => exact ob _ h
  case In => exact ob _ h
  case NotIn => exact ob _ h
  case Is =>
    cases y
    case non => exact on _ h
    all_goals exact h.elim
  case IsNot =>
    cases y
    case non => exact on _ h
    all_goals exact h.elim
  all_goals
    cases x
    case int i =>
      cases y
      case int j => exact on _ h
      all_goals exact h.elim
    all_goals exact h.elim
omit hG in
theorem b1_bl {r : R} {k : V → Store → R} {X : XK} {as : List Addr} {Qb : Bool → Hp → Prop} (g : ∀ v st, PT' cls as (k v st) Qb X → PV cls as (k v st) (fun z H => ∃ k, z = .bl k ∧ Qb k H) X) (h : PT' cls as (r.b1 k) Qb X) : PV cls as (r.b1 k) (fun z H => ∃ k, z = .bl k ∧ Qb k H) X := by
  cases r with
  | val vs st1 =>
    match vs with
    | [v] => exact g v st1 h
    | [] => exact h.elim
    | _ :: _ :: _ => exact h.elim
  | exc c fs en st1 => exact h
  | nxt _ _ => exact h.elim
  | ret _ _ => exact h.elim
  | stk => exact h.elim
theorem st_cmp {op : CmpOp} (hm : behindInMarks op eb = false) (ha : SE cls G W ea a) (hb : SE cls G W eb b) : ST cls G W (.Compare ea [op] [eb] pos) (fun env st => (a env st).b1 fun x st1 => (b env st1).b1 fun y st2 => cmpD op x y st2) := by
  intro env st as σ H Q h0 h1 hP
  have h2 : PV cls as ((a env st).b1 fun x st1 => (b env st1).b1 fun y st2 => cmpD op x y st2) (fun z H => ∃ k, z = .bl k ∧ Q k H) (fun c d H' => W c d σ H') :=
    b1_bl (fun v st1 h => b1_bl (fun u st2 h => cmpD_bl hG (Qx := fun _ _ => True) h) h) (show PT' cls as _ Q (fun c d H' => W c d σ H') from hP)
  refine ⟨tTest (tOp (UOp G (compareOp op)) (UE G ea) (UE G eb)), fun X hX => pt_cmpR (op_U hX) (pe_U hX) (pe_U hX) hm, ?_⟩
  exact ha.go h0 h1 h2 fun v st1 as1 w H1 p1 R1 S1 V1 hP1 => hb.go R1 S1 hP1 fun u st2 as2 y H2 p2 R2 S2 V2 hP2 => cmp_ok (hGB hG) R2 (V1.mono p2) V2 hP2
def fCmp2 (op op' : CmpOp) (a b c : Ev → Store → R) : Ev → Store → R := fun env st => (a env st).b1 fun x st1 => (b env st1).b1 fun y st2 => (cmpD op x y st2).b1 fun z st3 => match z with
    | .bl true => (c env st3).b1 fun w st4 => cmpD op' y w st4
    | .bl false => one (.bl false) st3
    | _ => .stk
theorem cmp2_read {op op' : CmpOp} (ha : SE cls G W ea a) (hb : SE cls G W eb b) (hc : SE cls G W ec c) {env : Ev} {st : Store} {as : List Addr} {σ : L2.St} {H : Hp} {Q : VK} (h0 : Rel cls as st H) (h1 : SR as env σ) (hP : PV cls as (fCmp2 op op' a b c env st) Q (fun c d H' => W c d σ H')) :
    tChain (UOp G (compareOp op)) (UOp G (compareOp op')) (UE G ea) (UE G eb) (UE G ec) σ H Q := by
  unfold fCmp2 at hP
  refine ha.go h0 h1 hP fun v st1 as1 w H1 p1 R1 S1 V1 hP1 => hb.go R1 S1 hP1 fun u st2 as2 y H2 p2 R2 S2 V2 hP2 => ?_
  refine cmp_ok (hGB hG) R2 (V1.mono p2) V2 (X := fun c d H' => W c d σ H') ?_
  cases q : cmpD op v u st2 with
  | val vs st3 =>
    rw [q] at hP2
    match vs, hP2 with
    | [z0], hP2 =>
      intro as3 z H3 p3 R3 V3
      have hP3 := PV.mono p3 hP2
      cases z0 with
      | bl k =>
        cases V3
        cases k with
        | true =>
          refine ⟨true, rfl, ?_⟩
          rw [if_pos rfl]
          exact hc.go R3 (S2.mono p3) hP3 fun w4 st4 as4 w' H4 p4 R4 S4 V4 hP4 => cmp_ok (hGB hG) R4 ((V2.mono p3).mono p4) V4 hP4
        | false =>
          refine ⟨false, rfl, ?_⟩
          rw [if_neg (by decide)]
          exact PV.got (v := .bl false) hP3 R3 rfl
      | _ => exact hP3.elim
    | [], hP2 => exact hP2.elim
    | _ :: _ :: _, hP2 => exact hP2.elim
  | exc c fs en st1 =>
    rw [q] at hP2
    exact hP2
  | nxt a b => rw [q] at hP2; exact hP2.elim
  | ret a b => rw [q] at hP2; exact hP2.elim
  | stk => rw [q] at hP2; exact hP2.elim
theorem se_cmp2' {op op' : CmpOp} (hm : lastMarks [op, op'] [eb, ec] = false) (ha : SE cls G W ea a) (hb : SE cls G W eb b) (hc : SE cls G W ec c) : SE cls G W (.Compare ea [op, op'] [eb, ec] pos) (fCmp2 op op' a b c) := by
  intro env st as σ H Q h0 h1 hP
  exact ⟨_, fun X hX => pe_chain (op_U hX) (op_U hX) (pe_U hX) (pe_U hX) (pe_U hX) hm, cmp2_read hG ha hb hc h0 h1 hP⟩
theorem st_cmp2 {op op' : CmpOp} (hm : lastMarks [op, op'] [eb, ec] = false) (ha : SE cls G W ea a) (hb : SE cls G W eb b) (hc : SE cls G W ec c) : ST cls G W (.Compare ea [op, op'] [eb, ec] pos) (fCmp2 op op' a b c) := by
  intro env st as σ H Q h0 h1 hP
  have h2 : PV cls as (fCmp2 op op' a b c env st) (fun z H => ∃ k, z = .bl k ∧ Q k H) (fun c d H' => W c d σ H') :=
    b1_bl (fun v st1 h => b1_bl (fun u st2 h => b1_bl (fun z st3 h => by
      cases z with
      | bl k =>
        cases k with
        | true => exact b1_bl (fun y st4 h => cmpD_bl hG (Qx := fun _ _ => True) h) h
        | false =>
          obtain ⟨b, hb, k2⟩ := h
          have : false = b := Option.some.inj hb
          subst this
          exact fun as' w H' p R1 r => ⟨false, r, k2 as' H' p R1⟩
      | _ => exact h.elim) h) h) (show PT' cls as _ Q (fun c d H' => W c d σ H') from hP)
  exact ⟨_, fun X hX => pt_chain (op_U hX) (op_U hX) (pe_U hX) (pe_U hX) (pe_U hX) hm, cmp2_read hG ha hb hc h0 h1 h2⟩
end
end
end Mi
set_option maxHeartbeats 400000
/-! Mi: the text against the terms: what a checked piece looks like. -/
namespace Mi
open PySem PySem.Spec PyProof.Rows L2 L2H
variable {Pg : Prog} {S : Sc} {s : Syn}

theorem inv_var {i : Nat} (h : chk Pg (.var i) S s = true) : ∃ x p, s = .e (.Name x p) ∧ S.N[i]? = some x ∧ visB S.sc x = true ∧ (x == ("__debug__" : Str)) = false ∧ (x == ("__classdict__" : Str)) = false := by
  cases s
  case e x =>
    cases x
    case Name x p =>
      obtain ⟨h1, k0⟩ := and2 h; obtain ⟨h2, k1⟩ := and2 k0; obtain ⟨h3, h4⟩ := and2 k1; exact ⟨x, p, rfl, dcd h1, h2, notT h3, notT h4⟩
    all_goals exact absurd h Bool.false_ne_true
  all_goals exact absurd h Bool.false_ne_true

theorem inv_cst {v : V} (h : chk Pg (.cst v) S s = true) : ∃ k j p, s = .e (.Constant k j p) ∧ cstB k v = true := by
  cases s
  case e x =>
    cases x
    case Constant k j p =>
      exact ⟨k, j, p, rfl, h⟩
    all_goals exact absurd h Bool.false_ne_true
  all_goals exact absurd h Bool.false_ne_true

theorem inv_glo {x : Str} (h : chk Pg (.glo x) S s = true) : ∃ p, s = .e (.Name x p) ∧ glB S.sc x = true := by
  cases s
  case e x =>
    cases x
    case Name y p =>
      obtain ⟨h1, h2⟩ := and2 h; cases dcd h1; exact ⟨p, rfl, h2⟩
    all_goals exact absurd h Bool.false_ne_true
  all_goals exact absurd h Bool.false_ne_true

theorem inv_bin {op : Operator} {a b : T} (h : chk Pg (.bin op a b) S s = true) : ∃ ea eb p, s = .e (.BinOp ea op eb p) ∧ chk Pg a S (.e ea) = true ∧ chk Pg b S (.e eb) = true := by
  cases s
  case e x =>
    cases x
    case BinOp ea op2 eb p =>
      obtain ⟨h1, k0⟩ := and2 h; obtain ⟨h2, h3⟩ := and2 k0; cases dcd h1; exact ⟨ea, eb, p, rfl, h2, h3⟩
    all_goals exact absurd h Bool.false_ne_true
  all_goals exact absurd h Bool.false_ne_true

theorem inv_neg {a : T} (h : chk Pg (.neg a) S s = true) : ∃ ea p, s = .e (.UnaryOp .USub ea p) ∧ chk Pg a S (.e ea) = true := by
  cases s
  case e x =>
    cases x
    case UnaryOp u ea p =>
      cases u
      case USub =>
        exact ⟨ea, p, rfl, h⟩
      all_goals exact absurd h Bool.false_ne_true
    all_goals exact absurd h Bool.false_ne_true
  all_goals exact absurd h Bool.false_ne_true

theorem inv_not {a : T} (h : chk Pg (.not a) S s = true) : ∃ ea p, s = .e (.UnaryOp .Not ea p) ∧ notIf ea = true ∧ chk Pg a S (.e ea) = true := by
  cases s
  case e x =>
    cases x
    case UnaryOp u ea p =>
      cases u
      case Not =>
        obtain ⟨h1, h2⟩ := and2 h; exact ⟨ea, p, rfl, h1, h2⟩
      all_goals exact absurd h Bool.false_ne_true
    all_goals exact absurd h Bool.false_ne_true
  all_goals exact absurd h Bool.false_ne_true

theorem inv_and {a b : T} (h : chk Pg (.and a b) S s = true) : ∃ ea eb rest p, s = .e (.BoolOp .And (ea :: eb :: rest) p) ∧ notIf ea = true ∧ chk Pg a S (.e ea) = true ∧ ((rest = [] ∧ notIf eb = true ∧ chk Pg b S (.e eb) = true) ∨ chk Pg b S (.e (.BoolOp .And (eb :: rest) p)) = true) := by
  cases s
  case e x =>
    cases x
    case BoolOp o vs p =>
      cases o
      case And =>
        cases vs
        case cons ea vs =>
          cases vs
          case cons eb rest =>
            obtain ⟨h1, k0⟩ := and2 h; obtain ⟨h2, h3⟩ := and2 k0; refine ⟨ea, eb, rest, p, rfl, h1, h2, ?_⟩; cases rest with
            | nil => exact .inl ⟨rfl, and2 h3⟩
            | cons r rs => exact .inr h3
          all_goals exact absurd h Bool.false_ne_true
        all_goals exact absurd h Bool.false_ne_true
      all_goals exact absurd h Bool.false_ne_true
    all_goals exact absurd h Bool.false_ne_true
  all_goals exact absurd h Bool.false_ne_true

theorem inv_or {a b : T} (h : chk Pg (.or a b) S s = true) : ∃ ea eb rest p, s = .e (.BoolOp .Or (ea :: eb :: rest) p) ∧ notIf ea = true ∧ chk Pg a S (.e ea) = true ∧ ((rest = [] ∧ notIf eb = true ∧ chk Pg b S (.e eb) = true) ∨ chk Pg b S (.e (.BoolOp .Or (eb :: rest) p)) = true) := by
  cases s
  case e x =>
    cases x
    case BoolOp o vs p =>
      cases o
      case Or =>
        cases vs
        case cons ea vs =>
          cases vs
          case cons eb rest =>
            obtain ⟨h1, k0⟩ := and2 h; obtain ⟨h2, h3⟩ := and2 k0; refine ⟨ea, eb, rest, p, rfl, h1, h2, ?_⟩; cases rest with
            | nil => exact .inl ⟨rfl, and2 h3⟩
            | cons r rs => exact .inr h3
          all_goals exact absurd h Bool.false_ne_true
        all_goals exact absurd h Bool.false_ne_true
      all_goals exact absurd h Bool.false_ne_true
    all_goals exact absurd h Bool.false_ne_true
  all_goals exact absurd h Bool.false_ne_true

theorem inv_cmp {op : CmpOp} {a b : T} (h : chk Pg (.cmp op a b) S s = true) : ∃ ea eb p, s = .e (.Compare ea [op] [eb] p) ∧ behindInMarks op eb = false ∧ chk Pg a S (.e ea) = true ∧ chk Pg b S (.e eb) = true := by
  cases s
  case e x =>
    cases x
    case Compare ea ops cs p =>
      cases ops
      case cons op2 ops =>
        cases ops
        case nil =>
          cases cs
          case cons eb cs =>
            cases cs
            case nil =>
              obtain ⟨h1, k0⟩ := and2 h; obtain ⟨h2, k1⟩ := and2 k0; obtain ⟨h3, h4⟩ := and2 k1; cases dcd h1; exact ⟨ea, eb, p, rfl, notT h2, h3, h4⟩
            all_goals exact absurd h Bool.false_ne_true
          all_goals exact absurd h Bool.false_ne_true
        all_goals exact absurd h Bool.false_ne_true
      all_goals exact absurd h Bool.false_ne_true
    all_goals exact absurd h Bool.false_ne_true
  all_goals exact absurd h Bool.false_ne_true

theorem inv_cmp2 {op op2 : CmpOp} {a b c : T} (h : chk Pg (.cmp2 op op2 a b c) S s = true) : ∃ ea eb ec p, s = .e (.Compare ea [op, op2] [eb, ec] p) ∧ lastMarks [op, op2] [eb, ec] = false ∧ chk Pg a S (.e ea) = true ∧ chk Pg b S (.e eb) = true ∧ chk Pg c S (.e ec) = true := by
  cases s
  case e x =>
    cases x
    case Compare ea ops cs p =>
      cases ops
      case cons o1 ops =>
        cases ops
        case cons o2 ops =>
          cases ops
          case nil =>
            cases cs
            case cons eb cs =>
              cases cs
              case cons ec cs =>
                cases cs
                case nil =>
                  obtain ⟨h1, k0⟩ := and2 h; obtain ⟨h2, k1⟩ := and2 k0; obtain ⟨h3, k2⟩ := and2 k1; obtain ⟨h4, k3⟩ := and2 k2; obtain ⟨h5, h6⟩ := and2 k3; cases dcd h1; cases dcd h2; exact ⟨ea, eb, ec, p, rfl, notT h3, h4, h5, h6⟩
                all_goals exact absurd h Bool.false_ne_true
              all_goals exact absurd h Bool.false_ne_true
            all_goals exact absurd h Bool.false_ne_true
          all_goals exact absurd h Bool.false_ne_true
        all_goals exact absurd h Bool.false_ne_true
      all_goals exact absurd h Bool.false_ne_true
    all_goals exact absurd h Bool.false_ne_true
  all_goals exact absurd h Bool.false_ne_true

theorem inv_ife {c a b : T} (h : chk Pg (.ife c a b) S s = true) : ∃ ec ea eb p, s = .e (.IfExp ec ea eb p) ∧ notIf ec = true ∧ chk Pg c S (.e ec) = true ∧ chk Pg a S (.e ea) = true ∧ chk Pg b S (.e eb) = true := by
  cases s
  case e x =>
    cases x
    case IfExp ec ea eb p =>
      obtain ⟨h1, k0⟩ := and2 h; obtain ⟨h2, k1⟩ := and2 k0; obtain ⟨h3, h4⟩ := and2 k1; exact ⟨ec, ea, eb, p, rfl, h1, h2, h3, h4⟩
    all_goals exact absurd h Bool.false_ne_true
  all_goals exact absurd h Bool.false_ne_true

theorem inv_nil (h : chk Pg .nil S s = true) : s = .es [] ∨ s = .o none ∨ s = .fs [] := by
  cases s
  case es xs =>
    cases xs
    case nil => exact .inl rfl
    all_goals exact absurd h Bool.false_ne_true
  case o x =>
    cases x
    case none => exact .inr (.inl rfl)
    all_goals exact absurd h Bool.false_ne_true
  case fs xs =>
    cases xs
    case nil => exact .inr (.inr rfl)
    all_goals exact absurd h Bool.false_ne_true
  all_goals exact absurd h Bool.false_ne_true
theorem inv_som {a : T} (h : chk Pg (.som a) S s = true) : ∃ ea, chk Pg a S (.e ea) = true ∧ (s = .o (some ea) ∨ (s = .fs [ea] ∧ notIf ea = true)) := by
  cases s
  case o x =>
    cases x
    case some ea => exact ⟨ea, h, .inl rfl⟩
    all_goals exact absurd h Bool.false_ne_true
  case fs xs =>
    cases xs
    case cons ea xs =>
      cases xs
      case nil => exact ⟨ea, (and2 h).2, .inr ⟨rfl, (and2 h).1⟩⟩
      all_goals exact absurd h Bool.false_ne_true
    all_goals exact absurd h Bool.false_ne_true
  all_goals exact absurd h Bool.false_ne_true
theorem inv_don (h : chk Pg .don S s = true) : s = .ss [] ∨ ∃ p, s = .s (.Pass p) := by
  cases s
  case ss xs =>
    cases xs
    case nil => exact .inl rfl
    all_goals exact absurd h Bool.false_ne_true
  case s x =>
    cases x
    case Pass p => exact .inr ⟨p, rfl⟩
    all_goals exact absurd h Bool.false_ne_true
  all_goals exact absurd h Bool.false_ne_true

theorem inv_cons {a b : T} (h : chk Pg (.cons a b) S s = true) : ∃ ea es, s = .es (ea :: es) ∧ isStar ea = false ∧ chk Pg a S (.e ea) = true ∧ chk Pg b S (.es es) = true := by
  cases s
  case es xs =>
    cases xs
    case cons ea es =>
      obtain ⟨h1, k0⟩ := and2 h; obtain ⟨h2, h3⟩ := and2 k0; exact ⟨ea, es, rfl, notT h1, h2, h3⟩
    all_goals exact absurd h Bool.false_ne_true
  all_goals exact absurd h Bool.false_ne_true

theorem inv_tup {a : T} (h : chk Pg (.tup a) S s = true) : ∃ es k p, s = .e (.Tuple es k p) ∧ chk Pg a S (.es es) = true := by
  cases s
  case e x =>
    cases x
    case Tuple es k p =>
      exact ⟨es, k, p, rfl, h⟩
    all_goals exact absurd h Bool.false_ne_true
  all_goals exact absurd h Bool.false_ne_true

theorem inv_lst {a : T} (h : chk Pg (.lst a) S s = true) : ∃ es p, s = .e (.List es p) ∧ chk Pg a S (.es es) = true := by
  cases s
  case e x =>
    cases x
    case List es p =>
      exact ⟨es, p, rfl, h⟩
    all_goals exact absurd h Bool.false_ne_true
  all_goals exact absurd h Bool.false_ne_true

theorem inv_dic0  (h : chk Pg (.dic0) S s = true) : ∃ p, s = .e (.Dict [] [] p) := by
  cases s
  case e x =>
    cases x
    case Dict ks vs p =>
      cases ks
      case nil =>
        cases vs
        case nil =>
          exact ⟨p, rfl⟩
        all_goals exact absurd h Bool.false_ne_true
      all_goals exact absurd h Bool.false_ne_true
    all_goals exact absurd h Bool.false_ne_true
  all_goals exact absurd h Bool.false_ne_true

theorem inv_call {f : Str} {a : T} (h : chk Pg (.call f a) S s = true) : ∃ p2 es p, s = .e (.Call (.Name f p2) es [] p) ∧ noStar es = true ∧ glB S.sc f = true ∧ topB Pg f = true ∧ chk Pg a S (.es es) = true := by
  cases s
  case e x =>
    cases x
    case Call g es kw p =>
      cases g
      case Name g p2 =>
        cases kw
        case nil =>
          obtain ⟨h1, k0⟩ := and2 h; obtain ⟨h2, k1⟩ := and2 k0; obtain ⟨h3, k2⟩ := and2 k1; obtain ⟨h4, h5⟩ := and2 k2; cases dcd h1; exact ⟨p2, es, p, rfl, h2, h3, h4, h5⟩
        all_goals exact absurd h Bool.false_ne_true
      all_goals exact absurd h Bool.false_ne_true
    all_goals exact absurd h Bool.false_ne_true
  all_goals exact absurd h Bool.false_ne_true

theorem inv_bif {f : Bi} {a : T} (h : chk Pg (.bif f a) S s = true) : ∃ p2 ea es p, s = .e (.Call (.Name (biN f) p2) (ea :: es) [] p) ∧ noStar (ea :: es) = true ∧ glB S.sc (biN f) = true ∧ chk Pg a S (.es (ea :: es)) = true := by
  cases s
  case e x =>
    cases x
    case Call g es kw p =>
      cases g
      case Name g p2 =>
        cases es
        case cons ea es =>
          cases kw
          case nil =>
            obtain ⟨h1, k0⟩ := and2 h; obtain ⟨h2, k1⟩ := and2 k0; obtain ⟨h3, h4⟩ := and2 k1; cases dcd h1; exact ⟨p2, ea, es, p, rfl, h2, h3, h4⟩
          all_goals exact absurd h Bool.false_ne_true
        all_goals exact absurd h Bool.false_ne_true
      all_goals exact absurd h Bool.false_ne_true
    all_goals exact absurd h Bool.false_ne_true
  all_goals exact absurd h Bool.false_ne_true

theorem inv_isi {a : T} {t : Ty} (h : chk Pg (.isi a t) S s = true) : ∃ p2 ea p3 p, s = .e (.Call (.Name "isinstance" p2) [ea, .Name (tyN t) p3] [] p) ∧ Pg.ty (tyN t) = true ∧ t ≠ .none ∧ isStar ea = false ∧ glB S.sc "isinstance" = true ∧ glB S.sc (tyN t) = true ∧ chk Pg a S (.e ea) = true := by
  cases s
  case e x =>
    cases x
    case Call g es kw p =>
      cases g
      case Name g p2 =>
        cases es
        case cons ea es =>
          cases es
          case cons u es =>
            cases u
            case Name u p3 =>
              cases es
              case nil =>
                cases kw
                case nil =>
                  obtain ⟨h1, k0⟩ := and2 h; obtain ⟨h2, k1⟩ := and2 k0; obtain ⟨h3, k2⟩ := and2 k1; obtain ⟨h3, h3b⟩ := and2 h3; obtain ⟨h4, k3⟩ := and2 k2; obtain ⟨h5, k4⟩ := and2 k3; obtain ⟨h6, h7⟩ := and2 k4; cases dcd h1; cases dcd h2; exact ⟨p2, ea, p3, p, rfl, h3, dcd h3b, notT h4, h5, h6, h7⟩
                all_goals exact absurd h Bool.false_ne_true
              all_goals exact absurd h Bool.false_ne_true
            all_goals exact absurd h Bool.false_ne_true
          all_goals exact absurd h Bool.false_ne_true
        all_goals exact absurd h Bool.false_ne_true
      all_goals exact absurd h Bool.false_ne_true
    all_goals exact absurd h Bool.false_ne_true
  all_goals exact absurd h Bool.false_ne_true

theorem inv_isc {a : T} {k : Str} (h : chk Pg (.isc a k) S s = true) : ∃ p2 ea p3 p, s = .e (.Call (.Name "isinstance" p2) [ea, .Name k p3] [] p) ∧ Pg.kls k = true ∧ isStar ea = false ∧ glB S.sc "isinstance" = true ∧ glB S.sc k = true ∧ chk Pg a S (.e ea) = true := by
  cases s
  case e x =>
    cases x
    case Call g es kw p =>
      cases g
      case Name g p2 =>
        cases es
        case cons ea es =>
          cases es
          case cons u es =>
            cases u
            case Name u p3 =>
              cases es
              case nil =>
                cases kw
                case nil =>
                  obtain ⟨h1, k0⟩ := and2 h; obtain ⟨h2, k1⟩ := and2 k0; obtain ⟨h3, k2⟩ := and2 k1; obtain ⟨h4, k3⟩ := and2 k2; obtain ⟨h5, k4⟩ := and2 k3; obtain ⟨h6, h7⟩ := and2 k4; cases dcd h1; cases dcd h2; exact ⟨p2, ea, p3, p, rfl, h3, notT h4, h5, h6, h7⟩
                all_goals exact absurd h Bool.false_ne_true
              all_goals exact absurd h Bool.false_ne_true
            all_goals exact absurd h Bool.false_ne_true
          all_goals exact absurd h Bool.false_ne_true
        all_goals exact absurd h Bool.false_ne_true
      all_goals exact absurd h Bool.false_ne_true
    all_goals exact absurd h Bool.false_ne_true
  all_goals exact absurd h Bool.false_ne_true

theorem inv_iscs {a : T} {ks : List Str} (h : chk Pg (.iscs a ks) S s = true) : ∃ p2 ea us n p3 p, s = .e (.Call (.Name "isinstance" p2) [ea, .Tuple us n p3] [] p) ∧ klsB Pg S ks us = true ∧ ks.length ≤ 100 ∧ isStar ea = false ∧ glB S.sc "isinstance" = true ∧ chk Pg a S (.e ea) = true := by
  cases s
  case e x =>
    cases x
    case Call g es kw p =>
      cases g
      case Name g p2 =>
        cases es
        case cons ea es =>
          cases es
          case cons u es =>
            cases u
            case Tuple us n p3 =>
              cases es
              case nil =>
                cases kw
                case nil =>
                  obtain ⟨h1, k0⟩ := and2 h; obtain ⟨h2, k1⟩ := and2 k0; obtain ⟨h3, k2⟩ := and2 k1; obtain ⟨h4, k3⟩ := and2 k2; obtain ⟨h5, h6⟩ := and2 k3; cases dcd h1; exact ⟨p2, ea, us, n, p3, p, rfl, h2, dcd h3, notT h4, h5, h6⟩
                all_goals exact absurd h Bool.false_ne_true
              all_goals exact absurd h Bool.false_ne_true
            all_goals exact absurd h Bool.false_ne_true
          all_goals exact absurd h Bool.false_ne_true
        all_goals exact absurd h Bool.false_ne_true
      all_goals exact absurd h Bool.false_ne_true
    all_goals exact absurd h Bool.false_ne_true
  all_goals exact absurd h Bool.false_ne_true

theorem inv_raiM {c : Str} (h : chk Pg (.raiM c) S s = true) : ∃ p2 m j p4 p3 p, s = .s (.Raise (some (.Call (.Name c p2) [.Constant (.str m) j p4] [] p3)) none p) ∧ glB S.sc c = true ∧ Pg.exk c = some none := by
  cases s
  case s x =>
    cases x
    case Raise ex fr p =>
      cases ex
      case some x =>
        cases x
        case Call g es kw p3 =>
          cases g
          case Name g p2 =>
            cases es
            case cons ea es =>
              cases ea
              case Constant k j p4 =>
                cases k
                case str m =>
                  cases es
                  case nil =>
                    cases kw
                    case nil =>
                      cases fr
                      case none =>
                        obtain ⟨h1, k0⟩ := and2 h; obtain ⟨h2, h3⟩ := and2 k0; cases dcd h1; exact ⟨p2, m, j, p4, p3, p, rfl, h2, dcd h3⟩
                      all_goals exact absurd h Bool.false_ne_true
                    all_goals exact absurd h Bool.false_ne_true
                  all_goals exact absurd h Bool.false_ne_true
                all_goals exact absurd h Bool.false_ne_true
              all_goals exact absurd h Bool.false_ne_true
            all_goals exact absurd h Bool.false_ne_true
          all_goals exact absurd h Bool.false_ne_true
        all_goals exact absurd h Bool.false_ne_true
      all_goals exact absurd h Bool.false_ne_true
    all_goals exact absurd h Bool.false_ne_true
  all_goals exact absurd h Bool.false_ne_true

theorem inv_rai {c : Str} {a : T} (h : chk Pg (.rai c a) S s = true) : ∃ p2 ea p3 p, s = .s (.Raise (some (.Call (.Name c p2) [ea] [] p3)) none p) ∧ glB S.sc c = true ∧ exkB Pg c = true ∧ isStar ea = false ∧ chk Pg a S (.e ea) = true := by
  cases s
  case s x =>
    cases x
    case Raise ex fr p =>
      cases ex
      case some x =>
        cases x
        case Call g es kw p3 =>
          cases g
          case Name g p2 =>
            cases es
            case cons ea es =>
              cases es
              case nil =>
                cases kw
                case nil =>
                  cases fr
                  case none =>
                    obtain ⟨h1, k0⟩ := and2 h; obtain ⟨h2, k1⟩ := and2 k0; obtain ⟨h3, k2⟩ := and2 k1; obtain ⟨h4, h5⟩ := and2 k2; cases dcd h1; exact ⟨p2, ea, p3, p, rfl, h2, h3, notT h4, h5⟩
                  all_goals exact absurd h Bool.false_ne_true
                all_goals exact absurd h Bool.false_ne_true
              all_goals exact absurd h Bool.false_ne_true
            all_goals exact absurd h Bool.false_ne_true
          all_goals exact absurd h Bool.false_ne_true
        all_goals exact absurd h Bool.false_ne_true
      all_goals exact absurd h Bool.false_ne_true
    all_goals exact absurd h Bool.false_ne_true
  all_goals exact absurd h Bool.false_ne_true

theorem inv_raiF {c : Str} {a : T} {i : Nat} (h : chk Pg (.raiF c a i) S s = true) : ∃ p2 ea p3 n np p, s = .s (.Raise (some (.Call (.Name c p2) [ea] [] p3)) (some (.Name n np)) p) ∧ glB S.sc c = true ∧ exkB Pg c = true ∧ isStar ea = false ∧ S.N[i]? = some n ∧ S.sc.names.lookup n = some .local ∧ (n == ("__debug__" : Str)) = false ∧ chk Pg a S (.e ea) = true := by
  cases s
  case s x =>
    cases x
    case Raise ex fr p =>
      cases ex
      case some x =>
        cases x
        case Call g es kw p3 =>
          cases g
          case Name g p2 =>
            cases es
            case cons ea es =>
              cases es
              case nil =>
                cases kw
                case nil =>
                  cases fr
                  case some y =>
                    cases y
                    case Name n np =>
                      obtain ⟨h1, k0⟩ := and2 h; obtain ⟨h2, k1⟩ := and2 k0; obtain ⟨h3, k2⟩ := and2 k1; obtain ⟨h4, k3⟩ := and2 k2; obtain ⟨h5, k4⟩ := and2 k3; obtain ⟨h6, k5⟩ := and2 k4; obtain ⟨h7, h8⟩ := and2 k5; cases dcd h1; exact ⟨p2, ea, p3, n, np, p, rfl, h2, h3, notT h4, dcd h5, dcd h6, notT h7, h8⟩
                    all_goals exact absurd h Bool.false_ne_true
                  all_goals exact absurd h Bool.false_ne_true
                all_goals exact absurd h Bool.false_ne_true
              all_goals exact absurd h Bool.false_ne_true
            all_goals exact absurd h Bool.false_ne_true
          all_goals exact absurd h Bool.false_ne_true
        all_goals exact absurd h Bool.false_ne_true
      all_goals exact absurd h Bool.false_ne_true
    all_goals exact absurd h Bool.false_ne_true
  all_goals exact absurd h Bool.false_ne_true

theorem inv_tri {b : T} {c1 : Str} {n1 : Option Nat} {s1 : T} {o2 : Option (Str × Option Nat)} {s2 oe : T} (h : chk Pg (.tri b c1 n1 s1 o2 s2 oe) S s = true) : ∃ body hs orelse p, s = .s (.Try body hs orelse [] p) ∧ hdB Pg S c1 n1 o2 hs = true ∧ chk Pg b S (.ss body) = true ∧ chk Pg s1 S (.ss (hd1 hs)) = true ∧ chk Pg s2 S (.ss (hd2 hs)) = true ∧ chk Pg oe S (.ss orelse) = true := by
  cases s
  case s x =>
    cases x
    case Try body hs orelse fin p =>
      cases fin
      case nil =>
        obtain ⟨h1, k0⟩ := and2 h; obtain ⟨h2, k1⟩ := and2 k0; obtain ⟨h3, k2⟩ := and2 k1; obtain ⟨h4, h5⟩ := and2 k2; exact ⟨body, hs, orelse, p, rfl, h1, h2, h3, h4, h5⟩
      all_goals exact absurd h Bool.false_ne_true
    all_goals exact absurd h Bool.false_ne_true
  all_goals exact absurd h Bool.false_ne_true

theorem inv_meth {m : Str} {o a : T} (h : chk Pg (.meth m o a) S s = true) : ∃ eo ap es p, s = .e (.Call (.Attribute eo m ap) es [] p) ∧ plainBase eo = true ∧ noStar es = true ∧ (ap.endLine == p.line) = true ∧ es.length < 30 ∧ chk Pg o S (.e eo) = true ∧ chk Pg a S (.es es) = true := by
  cases s
  case e x =>
    cases x
    case Call g es kw p =>
      cases g
      case Attribute eo m2 ap =>
        cases kw
        case nil =>
          obtain ⟨h1, k0⟩ := and2 h; obtain ⟨h2, k1⟩ := and2 k0; obtain ⟨h3, k2⟩ := and2 k1; obtain ⟨h4, k3⟩ := and2 k2; obtain ⟨h5, k4⟩ := and2 k3; obtain ⟨h6, h7⟩ := and2 k4; cases dcd h1; exact ⟨eo, ap, es, p, rfl, h2, h3, h4, dcd h5, h6, h7⟩
        all_goals exact absurd h Bool.false_ne_true
      all_goals exact absurd h Bool.false_ne_true
    all_goals exact absurd h Bool.false_ne_true
  all_goals exact absurd h Bool.false_ne_true

theorem inv_bm {t : Mt} {o a : T} (h : chk Pg (.bm t o a) S s = true) : ∃ eo ap es p, s = .e (.Call (.Attribute eo (mtN t) ap) es [] p) ∧ plainBase eo = true ∧ noStar es = true ∧ (ap.endLine == p.line) = true ∧ es.length < 29 ∧ notNev a = true ∧ chk Pg o S (.e eo) = true ∧ chk Pg a S (.es es) = true := by
  cases s
  case e x =>
    cases x
    case Call g es kw p =>
      cases g
      case Attribute eo m2 ap =>
        cases kw
        case nil =>
          obtain ⟨h1, k0⟩ := and2 h; obtain ⟨h2, k1⟩ := and2 k0; obtain ⟨h3, k2⟩ := and2 k1; obtain ⟨h4, k3⟩ := and2 k2; obtain ⟨h5, k4⟩ := and2 k3; obtain ⟨h6, h7⟩ := and2 k4; cases dcd h1; obtain ⟨h5, h5b⟩ := and2 h5; exact ⟨eo, ap, es, p, rfl, h2, h3, h4, dcd h5, h5b, h6, h7⟩
        all_goals exact absurd h Bool.false_ne_true
      all_goals exact absurd h Bool.false_ne_true
    all_goals exact absurd h Bool.false_ne_true
  all_goals exact absurd h Bool.false_ne_true

theorem inv_mk {c : Str} {a : T} (h : chk Pg (.mk c a) S s = true) : ∃ p2 es p, s = .e (.Call (.Name c p2) es [] p) ∧ noStar es = true ∧ glB S.sc c = true ∧ Pg.made c = true ∧ (Pg.meth c "__init__").isSome = true ∧ chk Pg a S (.es es) = true := by
  cases s
  case e x =>
    cases x
    case Call g es kw p =>
      cases g
      case Name g p2 =>
        cases kw
        case nil =>
          obtain ⟨h1, k0⟩ := and2 h; obtain ⟨h2, k1⟩ := and2 k0; obtain ⟨h3, k2⟩ := and2 k1; obtain ⟨h4, k3⟩ := and2 k2; obtain ⟨h5, h6⟩ := and2 k3; cases dcd h1; exact ⟨p2, es, p, rfl, h2, h3, h4, h5, h6⟩
        all_goals exact absurd h Bool.false_ne_true
      all_goals exact absurd h Bool.false_ne_true
    all_goals exact absurd h Bool.false_ne_true
  all_goals exact absurd h Bool.false_ne_true

theorem inv_cm {c m : Str} {a : T} (h : chk Pg (.cm c m a) S s = true) : ∃ p2 ap es p, s = .e (.Call (.Attribute (.Name c p2) m ap) es [] p) ∧ noStar es = true ∧ (ap.endLine == p.line) = true ∧ es.length < 30 ∧ glB S.sc c = true ∧ (Pg.cm c m).isSome = true ∧ chk Pg a S (.es es) = true := by
  cases s
  case e x =>
    cases x
    case Call g es kw p =>
      cases g
      case Attribute eo m2 ap =>
        cases eo
        case Name g p2 =>
          cases kw
          case nil =>
            obtain ⟨h1, k0⟩ := and2 h; obtain ⟨h2, k1⟩ := and2 k0; obtain ⟨h3, k2⟩ := and2 k1; obtain ⟨h4, k3⟩ := and2 k2; obtain ⟨h5, k4⟩ := and2 k3; obtain ⟨h6, k5⟩ := and2 k4; obtain ⟨h7, h8⟩ := and2 k5; cases dcd h1; cases dcd h2; exact ⟨p2, ap, es, p, rfl, h3, h4, dcd h5, h6, h7, h8⟩
          all_goals exact absurd h Bool.false_ne_true
        all_goals exact absurd h Bool.false_ne_true
      all_goals exact absurd h Bool.false_ne_true
    all_goals exact absurd h Bool.false_ne_true
  all_goals exact absurd h Bool.false_ne_true

theorem inv_lset {a : T} (h : chk Pg (.lset a) S s = true) : ∃ p1 p2 q ea p, s = .e (.Call (.Name "len" p1) [.Call (.Name "set" p2) [ea] [] q] [] p) ∧ glB S.sc "len" = true ∧ glB S.sc "set" = true ∧ isStar ea = false ∧ chk Pg a S (.e ea) = true := by
  cases s
  case e x =>
    cases x
    case Call g es kw p =>
      cases g
      case Name g p1 =>
        cases es
        case cons e1 es =>
          cases e1
          case Call g2 es2 kw2 q =>
            cases g2
            case Name g2 p2 =>
              cases es2
              case cons ea es2 =>
                cases es2
                case nil =>
                  cases kw2
                  case nil =>
                    cases es
                    case nil =>
                      cases kw
                      case nil =>
                        obtain ⟨h1, k0⟩ := and2 h; obtain ⟨h2, k1⟩ := and2 k0; obtain ⟨h3, k2⟩ := and2 k1; obtain ⟨h4, k3⟩ := and2 k2; obtain ⟨h5, h6⟩ := and2 k3; cases dcd h1; cases dcd h2; exact ⟨p1, p2, q, ea, p, rfl, h3, h4, notT h5, h6⟩
                      all_goals exact absurd h Bool.false_ne_true
                    all_goals exact absurd h Bool.false_ne_true
                  all_goals exact absurd h Bool.false_ne_true
                all_goals exact absurd h Bool.false_ne_true
              all_goals exact absurd h Bool.false_ne_true
            all_goals exact absurd h Bool.false_ne_true
          all_goals exact absurd h Bool.false_ne_true
        all_goals exact absurd h Bool.false_ne_true
      all_goals exact absurd h Bool.false_ne_true
    all_goals exact absurd h Bool.false_ne_true
  all_goals exact absurd h Bool.false_ne_true

theorem inv_lrev {a : T} (h : chk Pg (.lrev a) S s = true) : ∃ p1 p2 q ea p, s = .e (.Call (.Name "list" p1) [.Call (.Name "reversed" p2) [ea] [] q] [] p) ∧ glB S.sc "list" = true ∧ glB S.sc "reversed" = true ∧ isStar ea = false ∧ chk Pg a S (.e ea) = true := by
  cases s
  case e x =>
    cases x
    case Call g es kw p =>
      cases g
      case Name g p1 =>
        cases es
        case cons e1 es =>
          cases e1
          case Call g2 es2 kw2 q =>
            cases g2
            case Name g2 p2 =>
              cases es2
              case cons ea es2 =>
                cases es2
                case nil =>
                  cases kw2
                  case nil =>
                    cases es
                    case nil =>
                      cases kw
                      case nil =>
                        obtain ⟨h1, k0⟩ := and2 h; obtain ⟨h2, k1⟩ := and2 k0; obtain ⟨h3, k2⟩ := and2 k1; obtain ⟨h4, k3⟩ := and2 k2; obtain ⟨h5, h6⟩ := and2 k3; cases dcd h1; cases dcd h2; exact ⟨p1, p2, q, ea, p, rfl, h3, h4, notT h5, h6⟩
                      all_goals exact absurd h Bool.false_ne_true
                    all_goals exact absurd h Bool.false_ne_true
                  all_goals exact absurd h Bool.false_ne_true
                all_goals exact absurd h Bool.false_ne_true
              all_goals exact absurd h Bool.false_ne_true
            all_goals exact absurd h Bool.false_ne_true
          all_goals exact absurd h Bool.false_ne_true
        all_goals exact absurd h Bool.false_ne_true
      all_goals exact absurd h Bool.false_ne_true
    all_goals exact absurd h Bool.false_ne_true
  all_goals exact absurd h Bool.false_ne_true

theorem inv_rsl {a : T} (h : chk Pg (.rsl a) S s = true) : ∃ ea k p1 p2 p3 p, s = .e (.Subscript ea (.Slice none none (some (.UnaryOp .USub (.Constant (.int 1) k p1) p2)) p3) p) ∧ chk Pg a S (.e ea) = true := by
  cases s
  case e x =>
    cases x
    case Subscript ea ei p =>
      cases ei
      case Slice l hh stp p3 =>
        cases l
        case none =>
          cases hh
          case none =>
            cases stp
            case some u =>
              cases u
              case UnaryOp uo ec p2 =>
                cases uo
                case USub =>
                  cases ec
                  case Constant cc k p1 =>
                    cases cc
                    case int i =>
                      obtain ⟨h1, h2⟩ := and2 h; cases dcd h1; exact ⟨ea, k, p1, p2, p3, p, rfl, h2⟩
                    all_goals exact absurd h Bool.false_ne_true
                  all_goals exact absurd h Bool.false_ne_true
                all_goals exact absurd h Bool.false_ne_true
              all_goals exact absurd h Bool.false_ne_true
            all_goals exact absurd h Bool.false_ne_true
          all_goals exact absurd h Bool.false_ne_true
        all_goals exact absurd h Bool.false_ne_true
      all_goals exact absurd h Bool.false_ne_true
    all_goals exact absurd h Bool.false_ne_true
  all_goals exact absurd h Bool.false_ne_true

theorem inv_fld {o : T} {f : Str} (h : chk Pg (.fld o f) S s = true) : ∃ eo p, s = .e (.Attribute eo f p) ∧ plainBase eo = true ∧ chk Pg o S (.e eo) = true := by
  cases s
  case e x =>
    cases x
    case Attribute eo f2 p =>
      obtain ⟨h1, k0⟩ := and2 h; obtain ⟨h2, h3⟩ := and2 k0; cases dcd h1; exact ⟨eo, p, rfl, h2, h3⟩
    all_goals exact absurd h Bool.false_ne_true
  all_goals exact absurd h Bool.false_ne_true

theorem inv_fldX {o : T} {f : Str} (h : chk Pg (.fldX o f) S s = true) : ∃ eo p, s = .e (.Attribute eo f p) ∧ plainBase eo = true ∧ chk Pg o S (.e eo) = true := by
  cases s
  case e x =>
    cases x
    case Attribute eo f2 p =>
      obtain ⟨h1, k0⟩ := and2 h; obtain ⟨h2, h3⟩ := and2 k0; cases dcd h1; exact ⟨eo, p, rfl, h2, h3⟩
    all_goals exact absurd h Bool.false_ne_true
  all_goals exact absurd h Bool.false_ne_true

theorem inv_idx {a i : T} (h : chk Pg (.idx a i) S s = true) : ∃ ea ei p, s = .e (.Subscript ea ei p) ∧ noSlice ei = true ∧ chk Pg a S (.e ea) = true ∧ chk Pg i S (.e ei) = true := by
  cases s
  case e x =>
    cases x
    case Subscript ea ei p =>
      obtain ⟨h1, k0⟩ := and2 h; obtain ⟨h2, h3⟩ := and2 k0; exact ⟨ea, ei, p, rfl, h1, h2, h3⟩
    all_goals exact absurd h Bool.false_ne_true
  all_goals exact absurd h Bool.false_ne_true

theorem inv_slc {a lo hi : T} (h : chk Pg (.slc a lo hi) S s = true) : ∃ ea l hh p2 p, s = .e (.Subscript ea (.Slice l hh none p2) p) ∧ chk Pg a S (.e ea) = true ∧ chk Pg lo S (.o l) = true ∧ chk Pg hi S (.o hh) = true := by
  cases s
  case e x =>
    cases x
    case Subscript ea ei p =>
      cases ei
      case Slice l hh stp p2 =>
        cases stp
        case none =>
          obtain ⟨h1, k0⟩ := and2 h; obtain ⟨h2, h3⟩ := and2 k0; exact ⟨ea, l, hh, p2, p, rfl, h1, h2, h3⟩
        all_goals exact absurd h Bool.false_ne_true
      all_goals exact absurd h Bool.false_ne_true
    all_goals exact absurd h Bool.false_ne_true
  all_goals exact absurd h Bool.false_ne_true

theorem inv_seq {a b : T} (h : chk Pg (.seq a b) S s = true) : ∃ x xs, s = .ss (x :: xs) ∧ chk Pg a S (.s x) = true ∧ chk Pg b S (.ss xs) = true := by
  cases s
  case ss xs =>
    cases xs
    case cons x xs =>
      obtain ⟨h1, h2⟩ := and2 h; exact ⟨x, xs, rfl, h1, h2⟩
    all_goals exact absurd h Bool.false_ne_true
  all_goals exact absurd h Bool.false_ne_true

theorem inv_asgN {i : Nat} {e : T} (h : chk Pg (.asgN i e) S s = true) : ∃ x p2 ea p, s = .s (.Assign [.Name x p2] ea p) ∧ S.N[i]? = some x ∧ x ∈ S.own ∧ chk Pg e S (.e ea) = true := by
  cases s
  case s x =>
    cases x
    case Assign ts ea p =>
      cases ts
      case cons tt ts =>
        cases tt
        case Name x p2 =>
          cases ts
          case nil =>
            obtain ⟨h1, k0⟩ := and2 h; obtain ⟨h2, h3⟩ := and2 k0; exact ⟨x, p2, ea, p, rfl, dcd h1, dcd h2, h3⟩
          all_goals exact absurd h Bool.false_ne_true
        all_goals exact absurd h Bool.false_ne_true
      all_goals exact absurd h Bool.false_ne_true
    all_goals exact absurd h Bool.false_ne_true
  all_goals exact absurd h Bool.false_ne_true

theorem inv_asgT {i : List Nat} {e : T} (h : chk Pg (.asgT i e) S s = true) : ∃ ts k p2 ea p, s = .s (.Assign [.Tuple ts k p2] ea p) ∧ plainVal ea = true ∧ notTup ea = true ∧ tgB S.N S.own (.t i) (.Tuple ts k p2) = true ∧ chk Pg e S (.e ea) = true := by
  cases s
  case s x =>
    cases x
    case Assign ts ea p =>
      cases ts
      case cons tt ts =>
        cases tt
        case Tuple tsx k p2 =>
          cases ts
          case nil =>
            obtain ⟨h1, k0⟩ := and2 h; obtain ⟨h2, k1⟩ := and2 k0; obtain ⟨h3, h4⟩ := and2 k1; exact ⟨tsx, k, p2, ea, p, rfl, h1, h2, h3, h4⟩
          all_goals exact absurd h Bool.false_ne_true
        all_goals exact absurd h Bool.false_ne_true
      all_goals exact absurd h Bool.false_ne_true
    all_goals exact absurd h Bool.false_ne_true
  all_goals exact absurd h Bool.false_ne_true

theorem inv_asgF {o : T} {f : Str} {e : T} (h : chk Pg (.asgF o f e) S s = true) : ∃ eo p2 ea p, s = .s (.Assign [.Attribute eo f p2] ea p) ∧ plainVal ea = true ∧ plainBase eo = true ∧ chk Pg o S (.e eo) = true ∧ chk Pg e S (.e ea) = true := by
  cases s
  case s x =>
    cases x
    case Assign ts ea p =>
      cases ts
      case cons tt ts =>
        cases tt
        case Attribute eo f2 p2 =>
          cases ts
          case nil =>
            obtain ⟨h1, k0⟩ := and2 h; obtain ⟨h2, k1⟩ := and2 k0; obtain ⟨h3, k2⟩ := and2 k1; obtain ⟨h4, h5⟩ := and2 k2; cases dcd h1; exact ⟨eo, p2, ea, p, rfl, h2, h3, h4, h5⟩
          all_goals exact absurd h Bool.false_ne_true
        all_goals exact absurd h Bool.false_ne_true
      all_goals exact absurd h Bool.false_ne_true
    all_goals exact absurd h Bool.false_ne_true
  all_goals exact absurd h Bool.false_ne_true

theorem inv_asgI {o i e : T} (h : chk Pg (.asgI o i e) S s = true) : ∃ eo ei p2 ea p, s = .s (.Assign [.Subscript eo ei p2] ea p) ∧ noSlice ei = true ∧ chk Pg o S (.e eo) = true ∧ chk Pg i S (.e ei) = true ∧ chk Pg e S (.e ea) = true := by
  cases s
  case s x =>
    cases x
    case Assign ts ea p =>
      cases ts
      case cons tt ts =>
        cases tt
        case Subscript eo ei p2 =>
          cases ts
          case nil =>
            obtain ⟨h1, k0⟩ := and2 h; obtain ⟨h2, k1⟩ := and2 k0; obtain ⟨h3, h4⟩ := and2 k1; exact ⟨eo, ei, p2, ea, p, rfl, h1, h2, h3, h4⟩
          all_goals exact absurd h Bool.false_ne_true
        all_goals exact absurd h Bool.false_ne_true
      all_goals exact absurd h Bool.false_ne_true
    all_goals exact absurd h Bool.false_ne_true
  all_goals exact absurd h Bool.false_ne_true

theorem inv_aug {i : Nat} {op : Operator} {e : T} (h : chk Pg (.aug i op e) S s = true) : ∃ x p2 ea p, s = .s (.AugAssign (.Name x p2) op ea p) ∧ S.N[i]? = some x ∧ x ∈ S.own ∧ chk Pg e S (.e ea) = true := by
  cases s
  case s x =>
    cases x
    case AugAssign tt op2 ea p =>
      cases tt
      case Name x p2 =>
        obtain ⟨h1, k0⟩ := and2 h; obtain ⟨h2, k1⟩ := and2 k0; obtain ⟨h3, h4⟩ := and2 k1; cases dcd h1; exact ⟨x, p2, ea, p, rfl, dcd h2, dcd h3, h4⟩
      all_goals exact absurd h Bool.false_ne_true
    all_goals exact absurd h Bool.false_ne_true
  all_goals exact absurd h Bool.false_ne_true

theorem inv_augF {o : T} {f : Str} {e : T} (h : chk Pg (.augF o f e) S s = true) : ∃ eo p2 ea p, s = .s (.AugAssign (.Attribute eo f p2) .Sub ea p) ∧ chk Pg o S (.e eo) = true ∧ chk Pg e S (.e ea) = true := by
  cases s
  case s x =>
    cases x
    case AugAssign tt op2 ea p =>
      cases tt
      case Attribute eo f2 p2 =>
        cases op2
        case Sub =>
          obtain ⟨h1, k0⟩ := and2 h; obtain ⟨h2, h3⟩ := and2 k0; cases dcd h1; exact ⟨eo, p2, ea, p, rfl, h2, h3⟩
        all_goals exact absurd h Bool.false_ne_true
      all_goals exact absurd h Bool.false_ne_true
    all_goals exact absurd h Bool.false_ne_true
  all_goals exact absurd h Bool.false_ne_true

theorem inv_drop {e : T} (h : chk Pg (.drop e) S s = true) : ∃ ea p, s = .s (.Expr ea p) ∧ plainVal ea = true ∧ chk Pg e S (.e ea) = true := by
  cases s
  case s x =>
    cases x
    case Expr ea p =>
      obtain ⟨h1, h2⟩ := and2 h; exact ⟨ea, p, rfl, h1, h2⟩
    all_goals exact absurd h Bool.false_ne_true
  all_goals exact absurd h Bool.false_ne_true

theorem inv_ret {e : T} (h : chk Pg (.ret e) S s = true) : ∃ ea p, s = .s (.Return (some ea) p) ∧ chk Pg e S (.e ea) = true := by
  cases s
  case s x =>
    cases x
    case Return o p =>
      cases o
      case some ea =>
        exact ⟨ea, p, rfl, h⟩
      all_goals exact absurd h Bool.false_ne_true
    all_goals exact absurd h Bool.false_ne_true
  all_goals exact absurd h Bool.false_ne_true

theorem inv_retN  (h : chk Pg (.retN) S s = true) : ∃ p, s = .s (.Return none p) := by
  cases s
  case s x =>
    cases x
    case Return o p =>
      cases o
      case none =>
        exact ⟨p, rfl⟩
      all_goals exact absurd h Bool.false_ne_true
    all_goals exact absurd h Bool.false_ne_true
  all_goals exact absurd h Bool.false_ne_true

theorem inv_ifs {c a b : T} (h : chk Pg (.ifs c a b) S s = true) : ∃ ec q r p, s = .s (.If ec q r p) ∧ notIf ec = true ∧ chk Pg c S (.e ec) = true ∧ chk Pg a S (.ss q) = true ∧ chk Pg b S (.ss r) = true := by
  cases s
  case s x =>
    cases x
    case If ec q r p =>
      obtain ⟨h1, k0⟩ := and2 h; obtain ⟨h2, k1⟩ := and2 k0; obtain ⟨h3, h4⟩ := and2 k1; exact ⟨ec, q, r, p, rfl, h1, h2, h3, h4⟩
    all_goals exact absurd h Bool.false_ne_true
  all_goals exact absurd h Bool.false_ne_true

theorem inv_whl {c b : T} (h : chk Pg (.whl c b) S s = true) : ∃ ec q p, s = .s (.While ec q [] p) ∧ notIf ec = true ∧ chk Pg c S (.e ec) = true ∧ chk Pg b S (.ss q) = true := by
  cases s
  case s x =>
    cases x
    case While ec q r p =>
      cases r
      case nil =>
        obtain ⟨h1, k0⟩ := and2 h; obtain ⟨h2, h3⟩ := and2 k0; exact ⟨ec, q, p, rfl, h1, h2, h3⟩
      all_goals exact absurd h Bool.false_ne_true
    all_goals exact absurd h Bool.false_ne_true
  all_goals exact absurd h Bool.false_ne_true

/-- how an iterable is written -/
def itB (Pg : Prog) (a : T) (S : Sc) (tgE : Expr) : Ik → Expr → Bool
  | .seq, x => chk Pg a S (.e x)
  | .rng1, .Call (.Name g _) [x] [] _ => decide (g = ("range" : Str)) && (glB S.sc g && (!(isStar x) && chk Pg a S (.es [x])))
  | .rng2, .Call (.Name g _) [x, y] [] _ => decide (g = ("range" : Str)) && (glB S.sc g && (!(isStar x) && (!(isStar y) && chk Pg a S (.es [x, y]))))
  | .rngd, .Call (.Name g _) [x, y, z] [] _ => decide (g = ("range" : Str)) && (glB S.sc g && (!(isStar x) && (!(isStar y) && (!(isStar z) && chk Pg a S (.es [x, y, z])))))
  | .enum1, .Call (.Name g _) [x] [⟨some kn, .Constant (.int i) _ _, _⟩] _ => decide (g = ("enumerate" : Str)) && (decide (kn = ("start" : Str)) && (decide (i = 1) && (tupB tgE && (glB S.sc g && (!(isStar x) && chk Pg a S (.es [x]))))))
  | _, _ => false

theorem inv_for {tg : Tg} {k : Ik} {a b : T} (h : chk Pg (.for tg k a b) S s = true) : ∃ tgE iter body p, s = .s (.For tgE iter body [] p) ∧ notSet iter = true ∧ tgB S.N S.own tg tgE = true ∧ itB Pg a S tgE k iter = true ∧ chk Pg b S (.ss body) = true := by
  cases s
  case s x =>
    cases x
    case For tgE iter body r p =>
      cases r
      case nil =>
        obtain ⟨h1, k0⟩ := and2 h; obtain ⟨h2, k1⟩ := and2 k0; obtain ⟨h3, h4⟩ := and2 k1; exact ⟨tgE, iter, body, p, rfl, h1, h2, h3, h4⟩
      all_goals exact absurd h Bool.false_ne_true
    all_goals exact absurd h Bool.false_ne_true
  all_goals exact absurd h Bool.false_ne_true

theorem inv_lc {own : List Nat} {tg : Tg} {k : Ik} {a ifs e : T} (h : chk Pg (.lc own tg k a ifs e) S s = true) : ∃ elt tgE iter ifsE scope p, s = .e (.ListComp elt [⟨tgE, iter, ifsE, 0⟩] scope p) ∧ notSet iter = true ∧ blkC S.N S.sc scope (pairs S.N own) = true ∧ funB scope = true ∧ ownB scope ((pairs S.N own).map (·.1)) = true ∧ tgB S.N ((pairs S.N own).map (·.1)) tg tgE = true ∧ (∀ j ∈ tgSlots tg, j ∈ own) ∧ itB Pg a S tgE k iter = true ∧ chk Pg ifs (blkS S scope ((pairs S.N own).map (·.1))) (.fs ifsE) = true ∧ chk Pg e (blkS S scope ((pairs S.N own).map (·.1))) (.e elt) = true := by
  cases s
  case e x =>
    cases x
    case ListComp elt gs scope p =>
      cases gs
      case cons g gs =>
        cases g
        case mk tgE iter ifsE asy =>
          cases gs
          case nil =>
            obtain ⟨h1, k0⟩ := and2 h; obtain ⟨h2, k1⟩ := and2 k0; obtain ⟨h3, k2⟩ := and2 k1; obtain ⟨h4, k3⟩ := and2 k2; obtain ⟨h5, k4⟩ := and2 k3; obtain ⟨h6, k5⟩ := and2 k4; obtain ⟨h7, k6⟩ := and2 k5; obtain ⟨h8, k7⟩ := and2 k6; obtain ⟨h9, h10⟩ := and2 k7; cases dcd h1; exact ⟨elt, tgE, iter, ifsE, scope, p, rfl, h2, h3, h4, h5, h6, dcd h7, h8, h9, h10⟩
          all_goals exact absurd h Bool.false_ne_true
        all_goals exact absurd h Bool.false_ne_true
      all_goals exact absurd h Bool.false_ne_true
    all_goals exact absurd h Bool.false_ne_true
  all_goals exact absurd h Bool.false_ne_true

end Mi
set_option maxHeartbeats 400000
/-! Mi: every checked piece keeps to its run. -/
namespace Mi
open PySem PySem.Spec PyProof.Rows L2 L2H
section
variable (P : Program) (w : World) (K : PySem.W.Frag) (mg : Str → Option Value) (base : Heap) (cls : Cz) (Pg : Prog) (cf : Bool → Str → List V → Store → R) (lv : Nat)
structure SndE (S : Sc) (G : Cx → Prop) (W : WX) (x : Expr) (f : Ev → Store → R) : Prop where
  se : SE cls G W x f
  st : notIf x = true → ST cls G W x f
  sw : ∀ op vs p, x = .BoolOp op vs p → SW cls G W x f
  lc : plainVal x = false → ∀ i y py spos, S.N[i]? = some y → y ∈ S.own → SS cls G W (.Assign [.Name y py] x spos) (fun env st => (exE (f env st) env).b1 fun v st1 => if i < env.length then .nxt (env.set i (some v)) st1 else .stk)
abbrev HD (G : Cx → Prop) : Prop := ∀ X, G X → HDX X
def Snd (S : Sc) (G : Cx → Prop) (W : WX) (s : Syn) (f : Ev → Store → R) : Prop := match s with
  | .e x => SndE cls S G W x f
  | .es xs => SA cls G W xs f
  | .o x => SO cls G W x f
  | .fs xs => ∀ Xk, W = wk Xk → ∀ elt g, SE cls G W elt g → TurnOk cls G Xk xs elt (turnR f g)
  | .s x => HD G → SS cls G W x f
  | .ss xs => HD G → SSs cls G W xs f
abbrev HG (S : Sc) (mo : Mo) (G : Cx → Prop) (W : WX) : Prop := ∀ X, G X → GX P w K mg base cls (lv + 1) S mo X ∧ Tk cls.bad X W
def Good (t : T) : Prop := ∀ (xi : Nat → Addr → Value → Option Addr → Prop) (S : Sc) (mo : Mo) (G : Cx → Prop) (W : WX), HG P w K mg base (cls.x xi) lv S mo G W → ∀ s, chk Pg t S s = true → Snd (cls.x xi) S G W s (run Pg cf t mo)
end
section
variable {P : Program} {w : World} {K : PySem.W.Frag} {mg : Str → Option Value} {base : Heap} {cls : Cz} {Pg : Prog} {cf : Bool → Str → List V → Store → R} {lv : Nat} {S : Sc} {mo : Mo} {G : Cx → Prop} {W : WX}
variable {e ea eb ec eo tgE iter elt : Expr} {es ifs : List Expr} {a b c o : T} {x m : Str} {pos p apos : Pos} {f : Ev → Store → R}
/-- a plain expression: its test is its value's truth -/
theorem plain (hG : HG P w K mg base cls lv S mo G W) (h : SE cls G W e f) (he : ∀ env whole, isTrue e env whole = (do let v ← whole; standAt e.pos; holding [v] (truthy v))) (hb : ∀ op vs p, e ≠ .BoolOp op vs p) (hp : plainVal e = true) : SndE cls S G W e f where
  se := h
  st := fun _ => st_truth (hGB hG) h he
  sw := fun op vs p q => absurd q (hb op vs p)
  lc := fun q => absurd (hp.symm.trans q) (by decide)
theorem never (S : Sc) (G : Cx → Prop) (W : WX) (s : Syn) : Snd cls S G W s (fun _ _ => .stk) := by
  cases s with
  | e x => exact ⟨fun _ _ _ _ _ _ _ _ h => h.elim, fun _ _ _ _ _ _ _ _ _ h => h.elim, fun _ _ _ _ _ _ _ _ _ _ _ _ h => h.elim, fun _ _ _ _ _ _ _ _ _ _ _ _ _ _ _ h => h.elim⟩
  | es xs => exact fun _ _ _ _ _ _ _ _ h => h.elim
  | o x => exact fun _ _ _ _ _ _ _ _ h => h.elim
  | fs xs => exact fun _ _ _ _ _ _ _ _ _ _ _ _ _ _ h => h.elim
  | s x => exact fun _ _ _ _ _ _ _ _ _ h => h.elim
  | ss xs => exact fun _ _ _ _ _ _ _ _ _ h => h.elim
theorem hcst {k : Const} {v : V} : cstB k v = true → match k, v with
    | .none, .non => True
    | .bool b, .bl c => b = c
    | .int i, .int l => i = l
    | .str s, .str t => s = t
    | _, _ => False := by
  intro h
  unfold cstB at h
  split at h
  · trivial
  · exact eq_of_beq h
  · exact dcd h
  · exact dcd h
  · cases h
/-- the walks of an iterable -/
theorem sik {xi : Nat → Addr → Value → Option Addr → Prop} (T : Tab P w K mg base (cls.x xi) Pg cf lv) (hG : HG P w K mg base (cls.x xi) lv S mo G W) (ih : Good P w K mg base cls Pg cf lv a) {k : Ik} (h : itB Pg a S tgE k iter = true) : SIk (cls.x xi) G W k tgE iter (run Pg cf a mo) := by
  cases k
  case seq =>
    intro env st as σ H Q h0 h1 hP
    refine si_seq hG (ih xi S mo G W hG _ h).se env st as σ H Q h0 h1 ?_
    revert hP
    cases run Pg cf a mo env st <;> exact fun h => h
  case rng1 =>
    cases iter
    case Call g es kw p =>
      cases g
      case Name g p2 =>
        cases es
        case cons x es =>
          cases es
          case nil =>
            cases kw
            case nil =>
              obtain ⟨h1, k0⟩ := and2 h; obtain ⟨h2, k1⟩ := and2 k0; obtain ⟨h3, h4⟩ := and2 k1
              cases dcd h1
              intro env st as σ H Q q0 q1 hP
              refine si_rng1 hG T (notT h3) (glB_ok h2).1 (ih xi S mo G W hG _ h4) env st as σ H Q q0 q1 ?_
              revert hP
              cases run Pg cf a mo env st <;> exact fun h => h
            all_goals exact absurd h Bool.false_ne_true
          all_goals exact absurd h Bool.false_ne_true
        all_goals exact absurd h Bool.false_ne_true
      all_goals exact absurd h Bool.false_ne_true
    all_goals exact absurd h Bool.false_ne_true
  case rng2 =>
    cases iter
    case Call g es kw p =>
      cases g
      case Name g p2 =>
        cases es
        case cons x es =>
          cases es
          case cons y es =>
            cases es
            case nil =>
              cases kw
              case nil =>
                obtain ⟨h1, k0⟩ := and2 h; obtain ⟨h2, k1⟩ := and2 k0; obtain ⟨h3, k2⟩ := and2 k1; obtain ⟨h4, h5⟩ := and2 k2
                cases dcd h1
                intro env st as σ H Q q0 q1 hP
                refine si_rng2 hG T (notT h3) (notT h4) (glB_ok h2).1 (ih xi S mo G W hG _ h5) env st as σ H Q q0 q1 ?_
                revert hP
                cases run Pg cf a mo env st <;> exact fun h => h
              all_goals exact absurd h Bool.false_ne_true
            all_goals exact absurd h Bool.false_ne_true
          all_goals exact absurd h Bool.false_ne_true
        all_goals exact absurd h Bool.false_ne_true
      all_goals exact absurd h Bool.false_ne_true
    all_goals exact absurd h Bool.false_ne_true
  case rngd =>
    cases iter
    case Call g es kw p =>
      cases g
      case Name g p2 =>
        cases es
        case cons x es =>
          cases es
          case cons y es =>
            cases es
            case cons z es =>
              cases es
              case nil =>
                cases kw
                case nil =>
                  obtain ⟨h1, k0⟩ := and2 h; obtain ⟨h2, k1⟩ := and2 k0; obtain ⟨h3, k2⟩ := and2 k1; obtain ⟨h4, k3⟩ := and2 k2; obtain ⟨h5, h6⟩ := and2 k3
                  cases dcd h1
                  intro env st as σ H Q q0 q1 hP
                  refine si_rngd hG T (notT h3) (notT h4) (notT h5) (glB_ok h2).1 (ih xi S mo G W hG _ h6) env st as σ H Q q0 q1 ?_
                  revert hP
                  cases run Pg cf a mo env st <;> exact fun h => h
                all_goals exact absurd h Bool.false_ne_true
              all_goals exact absurd h Bool.false_ne_true
            all_goals exact absurd h Bool.false_ne_true
          all_goals exact absurd h Bool.false_ne_true
        all_goals exact absurd h Bool.false_ne_true
      all_goals exact absurd h Bool.false_ne_true
    all_goals exact absurd h Bool.false_ne_true
  case enum1 =>
    cases iter
    case Call g es kw p =>
      cases g
      case Name g p2 =>
        cases es
        case cons x es =>
          cases es
          case nil =>
            cases kw
            case cons kw1 kws =>
              obtain ⟨kn, kv, kp⟩ := kw1
              cases kn
              case some kn =>
                cases kv
                case Constant c cs cp =>
                  cases c
                  case int i =>
                    cases kws
                    case nil =>
                      obtain ⟨h1, k0⟩ := and2 h; obtain ⟨h2, k1⟩ := and2 k0; obtain ⟨h3, k2⟩ := and2 k1; obtain ⟨h4, k3⟩ := and2 k2; obtain ⟨h5, k4⟩ := and2 k3; obtain ⟨h6, h7⟩ := and2 k4
                      cases dcd h1
                      cases dcd h2
                      cases dcd h3
                      intro env st as σ H Q q0 q1 hP
                      refine si_enum1 hG T h4 (notT h6) (glB_ok h5).1 (ih xi S mo G W hG _ h7) env st as σ H Q q0 q1 ?_
                      revert hP
                      cases run Pg cf a mo env st <;> exact fun h => h
                    all_goals exact absurd h Bool.false_ne_true
                  all_goals exact absurd h Bool.false_ne_true
                all_goals exact absurd h Bool.false_ne_true
              all_goals exact absurd h Bool.false_ne_true
            all_goals exact absurd h Bool.false_ne_true
          all_goals exact absurd h Bool.false_ne_true
        all_goals exact absurd h Bool.false_ne_true
      all_goals exact absurd h Bool.false_ne_true
    all_goals exact absurd h Bool.false_ne_true
  all_goals exact absurd h Bool.false_ne_true

/-- what is told in some modes alone -/
theorem snd_if {q : Prop} [Decidable q] {S : Sc} {G : Cx → Prop} {W : WX} {s : Syn} {f : Ev → Store → R} (h : q → Snd cls S G W s f) : Snd cls S G W s (fun env st => if q then f env st else .stk) := by
  by_cases hq : q
  · have e : (fun env st => if q then f env st else .stk) = f := by
      funext env st
      rw [if_pos hq]
    rw [e]
    exact h hq
  · have e : (fun env st => if q then f env st else .stk) = (fun (_ : Ev) (_ : Store) => Mi.R.stk) := by
      funext env st
      rw [if_neg hq]
    rw [e]
    exact never S G W s
/-- every checked piece keeps to its run -/
theorem good (T : Tab P w K mg base cls Pg cf lv) (t : Mi.T) : Good P w K mg base cls Pg cf lv t := by
  induction t with
  | nev => exact fun xi S mo G W hG s h => never S G W s
  | var i =>
    intro xi S mo G W hG s h
    have T := T.x xi
    obtain ⟨x, p, rfl, h1, h2, h3, h4⟩ := inv_var h
    exact plain hG (se_var hG h1 (visB_ok h2) h3 h4) (fun _ _ => rfl) (by intro _ _ _ q; cases q) rfl
  | cst v =>
    intro xi S mo G W hG s h
    have T := T.x xi
    obtain ⟨k, j, p, rfl, h1⟩ := inv_cst h
    exact plain hG (se_cst (hcst h1)) (fun _ _ => rfl) (by intro _ _ _ q; cases q) rfl
  | glo x =>
    intro xi S mo G W hG s h
    have T := T.x xi
    obtain ⟨p, rfl, h1⟩ := inv_glo h
    exact plain hG (se_glo hG T (glB_ok h1).1 (glB_ok h1).2) (fun _ _ => rfl) (by intro _ _ _ q; cases q) rfl
  | bin op a b iha ihb =>
    intro xi S mo G W hG s h
    have T := T.x xi
    obtain ⟨ea, eb, p, rfl, h1, h2⟩ := inv_bin h
    exact plain hG (se_bin hG (iha xi S mo G W hG _ h1).se (ihb xi S mo G W hG _ h2).se) (fun _ _ => rfl) (by intro _ _ _ q; cases q) rfl
  | neg a iha =>
    intro xi S mo G W hG s h
    have T := T.x xi
    obtain ⟨ea, p, rfl, h1⟩ := inv_neg h
    exact plain hG (se_neg (iha xi S mo G W hG _ h1).se) (fun _ _ => rfl) (by intro _ _ _ q; cases q) rfl
  | not a iha =>
    intro xi S mo G W hG s h
    have T := T.x xi
    obtain ⟨ea, p, rfl, h0, h1⟩ := inv_not h
    have A := iha xi S mo G W hG _ h1
    exact ⟨se_not hG (A.st h0) A.se, fun _ => st_not (A.st h0), (by intro _ _ _ q; cases q), fun q => absurd (show true = false from q) (by decide)⟩
  | and a b iha ihb =>
    intro xi S mo G W hG s h
    have T := T.x xi
    obtain ⟨ea, eb, rest, p, rfl, h0, h1, h2⟩ := inv_and h
    have A := iha xi S mo G W hG _ h1
    have hse : SE (cls.x xi) G W (.BoolOp .And (eb :: rest) p) (run Pg cf b mo) ∧ SW (cls.x xi) G W (.BoolOp .And (eb :: rest) p) (run Pg cf b mo) := by
      rcases h2 with ⟨rfl, h2, h3⟩ | h2
      · have B := ihb xi S mo G W hG _ h3
        exact ⟨se_one B.se, sw_one (B.st h2)⟩
      · have B := ihb xi S mo G W hG _ h2
        exact ⟨B.se, B.sw _ _ _ rfl⟩
    have w1 : SW (cls.x xi) G W (.BoolOp .And (ea :: eb :: rest) p) (fAnd (run Pg cf a mo) (run Pg cf b mo)) := sw_and (A.st h0) hse.2
    exact ⟨se_and hG A.se hse.1, fun _ => w1.st, fun _ _ _ _ => w1, fun q => absurd (show true = false from q) (by decide)⟩
  | or a b iha ihb =>
    intro xi S mo G W hG s h
    have T := T.x xi
    obtain ⟨ea, eb, rest, p, rfl, h0, h1, h2⟩ := inv_or h
    have A := iha xi S mo G W hG _ h1
    have hse : SE (cls.x xi) G W (.BoolOp .Or (eb :: rest) p) (run Pg cf b mo) ∧ SW (cls.x xi) G W (.BoolOp .Or (eb :: rest) p) (run Pg cf b mo) := by
      rcases h2 with ⟨rfl, h2, h3⟩ | h2
      · have B := ihb xi S mo G W hG _ h3
        exact ⟨se_one B.se, sw_one (B.st h2)⟩
      · have B := ihb xi S mo G W hG _ h2
        exact ⟨B.se, B.sw _ _ _ rfl⟩
    have w1 : SW (cls.x xi) G W (.BoolOp .Or (ea :: eb :: rest) p) (fOr (run Pg cf a mo) (run Pg cf b mo)) := sw_or (A.st h0) hse.2
    exact ⟨se_or hG A.se hse.1, fun _ => w1.st, fun _ _ _ _ => w1, fun q => absurd (show true = false from q) (by decide)⟩
  | cmp op a b iha ihb =>
    intro xi S mo G W hG s h
    have T := T.x xi
    obtain ⟨ea, eb, p, rfl, h0, h1, h2⟩ := inv_cmp h
    exact ⟨se_cmp hG h0 (iha xi S mo G W hG _ h1).se (ihb xi S mo G W hG _ h2).se, fun _ => st_cmp hG h0 (iha xi S mo G W hG _ h1).se (ihb xi S mo G W hG _ h2).se, (by intro _ _ _ q; cases q), fun q => absurd (show true = false from q) (by decide)⟩
  | cmp2 op op2 a b c iha ihb ihc =>
    intro xi S mo G W hG s h
    have T := T.x xi
    obtain ⟨ea, eb, ec, p, rfl, h0, h1, h2, h3⟩ := inv_cmp2 h
    exact ⟨se_cmp2' hG h0 (iha xi S mo G W hG _ h1).se (ihb xi S mo G W hG _ h2).se (ihc xi S mo G W hG _ h3).se, fun _ => st_cmp2 hG h0 (iha xi S mo G W hG _ h1).se (ihb xi S mo G W hG _ h2).se (ihc xi S mo G W hG _ h3).se, (by intro _ _ _ q; cases q), fun q => absurd (show true = false from q) (by decide)⟩
  | ife c a b ihc iha ihb =>
    intro xi S mo G W hG s h
    have T := T.x xi
    obtain ⟨ec, ea, eb, p, rfl, h0, h1, h2, h3⟩ := inv_ife h
    exact ⟨se_ife ((ihc xi S mo G W hG _ h1).st h0) (iha xi S mo G W hG _ h2).se (ihb xi S mo G W hG _ h3).se, fun q => absurd (show false = true from q) (by decide), (by intro _ _ _ q; cases q), fun q => absurd (show true = false from q) (by decide)⟩
  | nil =>
    intro xi S mo G W hG s h
    have T := T.x xi
    rcases inv_nil h with rfl | rfl | rfl
    · exact sa_nil
    · exact so_none (W := W)
    · intro Xk hw elt g hg
      subst hw
      exact turn_nil hg
  | cons a b iha ihb =>
    intro xi S mo G W hG s h
    have T := T.x xi
    obtain ⟨ea, es, rfl, h0, h1, h2⟩ := inv_cons h
    exact sa_cons h0 (iha xi S mo G W hG _ h1).se (ihb xi S mo G W hG _ h2)
  | som a iha =>
    intro xi S mo G W hG s h
    have T := T.x xi
    obtain ⟨ea, h1, rfl | ⟨rfl, h2⟩⟩ := inv_som h
    · exact so_some (iha xi S mo G W hG _ h1).se
    · intro Xk hw elt g hg
      subst hw
      exact turn_one ((iha xi S mo G _ hG _ h1).st h2) hg
  | tup a iha =>
    intro xi S mo G W hG s h
    have T := T.x xi
    obtain ⟨es, k, p, rfl, h1⟩ := inv_tup h
    exact plain hG (se_tup (iha xi S mo G W hG _ h1)) (fun _ _ => rfl) (by intro _ _ _ q; cases q) rfl
  | lst a iha =>
    intro xi S mo G W hG s h
    have T := T.x xi
    obtain ⟨es, p, rfl, h1⟩ := inv_lst h
    exact plain hG (se_lst (iha xi S mo G W hG _ h1)) (fun _ _ => rfl) (by intro _ _ _ q; cases q) rfl
  | dic0 =>
    intro xi S mo G W hG s h
    have T := T.x xi
    obtain ⟨p, rfl⟩ := inv_dic0 h
    exact plain hG (se_dic0) (fun _ _ => rfl) (by intro _ _ _ q; cases q) rfl
  | call f a iha =>
    intro xi S mo G W hG s h
    have T := T.x xi
    obtain ⟨p2, es, p, rfl, h0, h1, h2, h3⟩ := inv_call h
    unfold topB at h2
    split at h2
    · rename_i F hF
      exact plain hG (se_call hG T h0 (glB_ok h1).1 (glB_ok h1).2 hF h2 (iha xi S mo G W hG _ h3)) (fun _ _ => rfl) (by intro _ _ _ q; cases q) rfl
    · cases h2
  | «bif» f a iha =>
    intro xi S mo G W hG s h
    have T := T.x xi
    obtain ⟨p2, ea, es, p, rfl, h0, h1, h2⟩ := inv_bif h
    exact plain hG (se_bif hG T h0 (glB_ok h1).1 (iha xi S mo G W hG _ h2)) (fun _ _ => rfl) (by intro _ _ _ q; cases q) rfl
  | isi a t iha =>
    intro xi S mo G W hG s h
    have T := T.x xi
    obtain ⟨p2, ea, p3, p, rfl, h0, h1, h2, h3, h4, h5⟩ := inv_isi h
    exact plain hG (se_isi hG T h2 (glB_ok h3).1 (glB_ok h4).1 h1 (T.ty _ h0) (iha xi S mo G W hG _ h5).se) (fun _ _ => rfl) (by intro _ _ _ q; cases q) rfl
  | meth m o a iho iha =>
    intro xi S mo G W hG s h
    have T := T.x xi
    obtain ⟨eo, ap, es, p, rfl, h0, h1, h2, h3, h4, h5⟩ := inv_meth h
    exact plain hG (se_meth hG T h0 h1 h2 h3 (iho xi S mo G W hG _ h4).se (iha xi S mo G W hG _ h5)) (fun _ _ => rfl) (by intro _ _ _ q; cases q) rfl
  | bm t o a iho iha =>
    intro xi S mo G W hG s h
    have T := T.x xi
    obtain ⟨eo, ap, es, p, rfl, h0, h1, h2, h3, h3b, h4, h5⟩ := inv_bm h
    cases es with
    | nil =>
      have A : a = .nil := by
        cases a
        case nil => rfl
        case nev => exact absurd h3b Bool.false_ne_true
        all_goals exact absurd h5 Bool.false_ne_true
      subst A
      exact plain hG (se_bm0 hG h0 h2 (iho xi S mo G W hG _ h4).se) (fun _ _ => rfl) (by intro _ _ _ q; cases q) rfl
    | cons ea es => exact plain hG (se_bm hG h0 h1 h2 h3 (iho xi S mo G W hG _ h4).se (iha xi S mo G W hG _ h5)) (fun _ _ => rfl) (by intro _ _ _ q; cases q) rfl
  | mk c a iha =>
    intro xi S mo G W hG s h
    have T := T.x xi
    obtain ⟨p2, es, p, rfl, h0, h1, h2, h3, h4⟩ := inv_mk h
    obtain ⟨f, hf⟩ := Option.isSome_iff_exists.mp h3
    refine plain hG ?_ (fun _ _ => rfl) (by intro _ _ _ q; cases q) rfl
    have := se_mk (p := p2) (pos := p) hG T h0 (glB_ok h1).1 (glB_ok h1).2 h2 hf (iha xi S mo G W hG _ h4)
    have e1 : run Pg cf (.mk c a) mo = (fun env st => (run Pg cf a mo env st).bs fun xs st1 => (exE (cfm cf mo f (.ref st1.length :: xs) (st1 ++ [.ins c []])) env).b1 fun v st2 => match v with
      | .non => one (.ref st1.length) st2
      | _ => .stk) := by
      funext env st
      simp only [run, h2, hf, if_true]
      all_goals rfl
    rw [e1]
    exact this
  | cm c m a iha =>
    intro xi S mo G W hG s h
    have T := T.x xi
    obtain ⟨p2, ap, es, p, rfl, h0, h1, h2, h3, h4, h5⟩ := inv_cm h
    obtain ⟨f, hf⟩ := Option.isSome_iff_exists.mp h4
    refine plain hG ?_ (fun _ _ => rfl) (by intro _ _ _ q; cases q) rfl
    have := se_cm (p := p2) (pos := p) hG T h0 h1 h2 (glB_ok h3).1 (glB_ok h3).2 hf (iha xi S mo G W hG _ h5)
    have e1 : run Pg cf (.cm c m a) mo = (fun env st => (run Pg cf a mo env st).bs fun xs st1 => exE (cfm cf mo f xs st1) env) := by
      funext env st
      simp only [run, hf]
      all_goals rfl
    rw [e1]
    exact this
  | lset a iha =>
    intro xi S mo G W hG s h
    have T := T.x xi
    obtain ⟨p1, p2, q, ea, p, rfl, h0, h1, h2, h3⟩ := inv_lset h
    exact snd_if fun hmo => plain hG (se_lset hG hmo T h2 (glB_ok h0).1 (glB_ok h1).1 (iha xi S mo G W hG _ h3).se) (fun _ _ => rfl) (by intro _ _ _ q; cases q) rfl
  | lrev a iha =>
    intro xi S mo G W hG s h
    have T := T.x xi
    obtain ⟨p1, p2, q, ea, p, rfl, h0, h1, h2, h3⟩ := inv_lrev h
    exact snd_if fun hmo => plain hG (se_lrev hG hmo T h2 (glB_ok h0).1 (glB_ok h1).1 (iha xi S mo G W hG _ h3).se) (fun _ _ => rfl) (by intro _ _ _ q; cases q) rfl
  | rsl a iha =>
    intro xi S mo G W hG s h
    have T := T.x xi
    obtain ⟨ea, k, p1, p2, p3, p, rfl, h1⟩ := inv_rsl h
    exact plain hG (se_rsl (fun X hX => (hG X hX).1.k) (iha xi S mo G W hG _ h1).se) (fun _ _ => rfl) (by intro _ _ _ q; cases q) rfl
  | fld o f iho =>
    intro xi S mo G W hG s h
    have T := T.x xi
    obtain ⟨eo, p, rfl, h0, h1⟩ := inv_fld h
    exact plain hG (se_fld hG T h0 (iho xi S mo G W hG _ h1).se) (fun _ _ => rfl) (by intro _ _ _ q; cases q) rfl
  | fldX o f iho =>
    intro xi S mo G W hG s h
    have T := T.x xi
    obtain ⟨eo, p, rfl, h0, h1⟩ := inv_fldX h
    exact plain hG (se_fldX hG T h0 (iho xi S mo G W hG _ h1).se) (fun _ _ => rfl) (by intro _ _ _ q; cases q) rfl
  | idx a i iha ihi =>
    intro xi S mo G W hG s h
    have T := T.x xi
    obtain ⟨ea, ei, p, rfl, h0, h1, h2⟩ := inv_idx h
    exact plain hG (se_idx hG h0 (iha xi S mo G W hG _ h1).se (ihi xi S mo G W hG _ h2).se) (fun _ _ => rfl) (by intro _ _ _ q; cases q) rfl
  | slc a lo hi iha ihl ihh =>
    intro xi S mo G W hG s h
    have T := T.x xi
    obtain ⟨ea, l, hh, p2, p, rfl, h0, h1, h2⟩ := inv_slc h
    exact plain hG (se_slc hG (iha xi S mo G W hG _ h0).se (ihl xi S mo G W hG _ h1) (ihh xi S mo G W hG _ h2)) (fun _ _ => rfl) (by intro _ _ _ q; cases q) rfl
  | lc own tg k a ifs e iha ihf ihe =>
    intro xi S mo G W hG s h
    have T := T.x xi
    obtain ⟨elt, tgE, iter, ifsE, scope, p, rfl, h0, h1, h2, h3, h4, h5, h6, h7, h8⟩ := inv_lc h
    refine snd_if fun hq => ?_
    have hB : ∀ Xk, HG P w K mg base (cls.x xi) lv (blkS S scope ((pairs S.N own).map (·.1))) mo (GC P w K mg base (cls.x xi) (lv + 1) (blkS S scope ((pairs S.N own).map (·.1))) mo Xk) (wk Xk) := fun Xk X hX => hX
    have hT := fun Xk => ihf xi _ mo _ _ (hB Xk) _ h7 Xk rfl elt _ (ihe xi _ mo _ _ (hB Xk) _ h8).se
    have hI : SIk (cls.x xi) G W k tgE iter (run Pg cf a mo) := sik T hG iha h6
    have key := se_lc (pos := p) hG hq h0 h1 (funB_ok h2) (ownB_ok h3) h4 (by rw [pairs_snd]; exact h5) hI hT
    rw [pairs_snd] at key
    refine ⟨key, fun _ => st_truth (hGB hG) key (fun _ _ => rfl), (by intro _ _ _ q; cases q), fun _ i y py spos hN ho => ?_⟩
    have key2 := ss_asgLc (pos := p) (py := py) (spos := spos) hG hq h0 h1 (funB_ok h2) (ownB_ok h3) h4 (by rw [pairs_snd]; exact h5) hI hT hN ho
    rw [pairs_snd] at key2
    exact key2
  | don =>
    intro xi S mo G W hG s h
    have T := T.x xi
    rcases inv_don h with rfl | ⟨p, rfl⟩
    · exact fun _ => sss_nil
    · exact fun _ => ss_pass
  | seq a b iha ihb =>
    intro xi S mo G W hG s h
    have T := T.x xi
    obtain ⟨x, xs, rfl, h1, h2⟩ := inv_seq h
    exact fun hD => sss_cons (iha xi S mo G W hG _ h1 hD) (ihb xi S mo G W hG _ h2 hD)
  | asgN i e ihe =>
    intro xi S mo G W hG s h
    have T := T.x xi
    obtain ⟨x, p2, ea, p, rfl, h1, h2, h3⟩ := inv_asgN h
    intro _
    have A := ihe xi S mo G W hG _ h3
    cases hp : plainVal ea with
    | true => exact ss_asgN hG hp h1 h2 A.se
    | false => exact A.lc hp i x p2 p h1 h2
  | asgT i e ihe =>
    intro xi S mo G W hG s h
    have T := T.x xi
    obtain ⟨ts, k, p2, ea, p, rfl, h1, h2, h3, h4⟩ := inv_asgT h
    exact snd_if fun hq => fun _ => ss_asgT hG hq h1 h2 h3 (ihe xi S mo G W hG _ h4).se
  | asgF o f e iho ihe =>
    intro xi S mo G W hG s h
    have T := T.x xi
    obtain ⟨eo, p2, ea, p, rfl, h1, h2, h3, h4⟩ := inv_asgF h
    exact fun _ => ss_asgF hG T h1 h2 (iho xi S mo G W hG _ h3).se (ihe xi S mo G W hG _ h4).se
  | asgI o i e iho ihi ihe =>
    intro xi S mo G W hG s h
    have T := T.x xi
    obtain ⟨eo, ei, p2, ea, p, rfl, h2, h3, h4, h5⟩ := inv_asgI h
    exact fun _ => ss_asgI hG h2 (iho xi S mo G W hG _ h3).se (ihi xi S mo G W hG _ h4).se (ihe xi S mo G W hG _ h5).se
  | aug i op e ihe =>
    intro xi S mo G W hG s h
    have T := T.x xi
    obtain ⟨x, p2, ea, p, rfl, h1, h2, h3⟩ := inv_aug h
    exact fun _ => ss_aug hG h1 h2 (ihe xi S mo G W hG _ h3).se
  | augF o f e iho ihe =>
    intro xi S mo G W hG s h
    have T := T.x xi
    obtain ⟨eo, p2, ea, p, rfl, h1, h2⟩ := inv_augF h
    exact fun _ => ss_augF hG T (iho xi S mo G W hG _ h1).se (ihe xi S mo G W hG _ h2).se
  | drop e ihe =>
    intro xi S mo G W hG s h
    have T := T.x xi
    obtain ⟨ea, p, rfl, h1, h2⟩ := inv_drop h
    exact fun _ => ss_drop hG h1 (ihe xi S mo G W hG _ h2).se
  | ret e ihe =>
    intro xi S mo G W hG s h
    have T := T.x xi
    obtain ⟨ea, p, rfl, h1⟩ := inv_ret h
    exact fun _ => ss_ret hG (ihe xi S mo G W hG _ h1).se
  | retN =>
    intro xi S mo G W hG s h
    have T := T.x xi
    obtain ⟨p, rfl⟩ := inv_retN h
    exact fun _ => ss_retN
  | ifs c a b ihc iha ihb =>
    intro xi S mo G W hG s h
    have T := T.x xi
    obtain ⟨ec, q, r, p, rfl, h0, h1, h2, h3⟩ := inv_ifs h
    exact fun hD => ss_ifs hG ((ihc xi S mo G W hG _ h1).st h0) (iha xi S mo G W hG _ h2 hD) (ihb xi S mo G W hG _ h3 hD)
  | «for» tg k a b iha ihb =>
    intro xi S mo G W hG s h
    have T := T.x xi
    obtain ⟨tgE, iter, body, p, rfl, h0, h1, h2, h3⟩ := inv_for h
    exact snd_if fun hq => fun hD => ss_for hG hq (fun X hX => (hD X hX).1) h0 h1 (sik T hG iha h2) (ihb xi S mo G W hG _ h3 hD)
  | whl c b ihc ihb =>
    intro xi S mo G W hG s h
    have T := T.x xi
    obtain ⟨ec, q, p, rfl, h0, h1, h2⟩ := inv_whl h
    exact fun hD => ss_whl hG (fun X hX => (hD X hX).1) ((ihc xi S mo G W hG _ h1).st h0) (ihb xi S mo G W hG _ h2 hD)
  | isc a k iha =>
    intro xi S mo G W hG s h
    have T := T.x xi
    obtain ⟨p2, ea, p3, p, rfl, h1, h2, h3, h4, h5⟩ := inv_isc h
    exact plain hG (se_isc hG T h2 (glB_ok h3).1 (glB_ok h4).1 (glB_ok h4).2 h1 (iha xi S mo G W hG _ h5).se) (fun _ _ => rfl) (by intro _ _ _ q; cases q) rfl
  | iscs a ks iha =>
    intro xi S mo G W hG s h
    have T := T.x xi
    obtain ⟨p2, ea, us, n, p3, p, rfl, h1, h2, h3, h4, h5⟩ := inv_iscs h
    exact plain hG (se_iscs hG T h3 (glB_ok h4).1 h1 h2 (iha xi S mo G W hG _ h5).se) (fun _ _ => rfl) (by intro _ _ _ q; cases q) rfl
  | raiM c =>
    intro xi S mo G W hG s h
    have T := T.x xi
    obtain ⟨p2, m, j, p4, p3, p, rfl, h1, h2⟩ := inv_raiM h
    exact snd_if fun hmo => fun _ => ss_raiM hG hmo T (glB_ok h1).1 (glB_ok h1).2 h2
  | rai c a iha =>
    intro xi S mo G W hG s h
    have T := T.x xi
    obtain ⟨p2, ea, p3, p, rfl, h1, h2, h3, h4⟩ := inv_rai h
    obtain ⟨f, hf⟩ := exkB_ok h2
    exact snd_if fun hmo => fun _ => ss_rai hG hmo T h3 (glB_ok h1).1 (glB_ok h1).2 hf (iha xi S mo G W hG _ h4).se
  | raiF c a i iha =>
    intro xi S mo G W hG s h
    have T := T.x xi
    obtain ⟨p2, ea, p3, n, np, p, rfl, h1, h2, h3, h4, h5, h6, h7⟩ := inv_raiF h
    obtain ⟨f, hf⟩ := exkB_ok h2
    exact snd_if fun hmo => fun _ => ss_raiF hG hmo T h3 (glB_ok h1).1 (glB_ok h1).2 hf h4 h5 h6 (iha xi S mo G W hG _ h7).se
  | tri b c1 n1 s1 o2 s2 oe ihb ih1 ih2 iho =>
    intro xi S mo G W hG s h
    have T' := T.x xi
    obtain ⟨body, hs, orelse, p, rfl, h1, h2, h3, h4, h5⟩ := inv_tri h
    refine snd_if fun hmo => fun hD => ?_
    refine ss_tri hG hmo T' hD h1 (fun G' W' g1 g2 => ?_) (fun xi' mo' G' W' g1 g2 => ih1 xi' S mo' G' W' g1 _ h3 g2) (fun xi' mo' G' W' g1 g2 => ih2 xi' S mo' G' W' g1 _ h4 g2) (iho xi S mo G W hG _ h5 hD)
    rw [hmo]
    exact ihb xi S (.on false) G' W' g1 _ h2 g2
end
end Mi
set_option maxHeartbeats 400000
/-! Mi: the defs' promises, by depth. -/
namespace Mi
open PySem PySem.Spec PyProof.Rows L2 L2H
/-- what a def's body may store -/
def ownOf (N : List Str) (sc : Scope) : List Str := N.filter fun x => match sc.names.lookup x with
  | some .local => true
  | some .cell => true
  | _ => false
theorem ownOf_ok {N : List Str} {sc : Scope} {x : Str} (h : x ∈ ownOf N sc) : sc.names.lookup x = some .local ∨ sc.names.lookup x = some .cell := by
  have := (List.mem_filter.mp h).2
  split at this
  · exact .inl (by assumption)
  · exact .inr (by assumption)
  · cases this
section
variable (P : Program) (w : World) (K : PySem.W.Frag) (mg : Str → Option Value) (base : Heap) (cls : Cz) (Pg : Prog)
/-- one def, whatever its callees do -/
structure DefOk (F : Fn) (a : Addr) : Prop where
  ex : ∃ (x qual : Str) (params : Arguments) (body : List Stmt) (scope : Scope) (dvs : List V) (kws : List (Str × V)) (fd : FuncData), FunD K x qual params body scope dvs kws a fd ∧ FnScope F.N F.ps scope ∧
    chk Pg F.body ⟨F.N, scope, ownOf F.N scope⟩ (.ss body) = true ∧
    ∀ n, n ≤ F.ps.length → F.ps.length ≤ n + F.dfl.length → ∃ ds, Vals (F.dfl.drop (n + F.dfl.length - F.ps.length)) ds ∧ Binds K fd F.ps ds
  dfl : F.dfl.all (fun v => !isRef v) = true
  kp : PySem.W.keepIn K (.ref a) = true
/-- an own exception's class that is raised -/
structure ExD (c : Str) (k : Option Str) : Prop where
  gl : mg c = some (.ref (cls c))
  kC : PySem.W.keepIn K (.ref (cls c)) = true
  exC : PySem.W.subIn K (.ref (cls c)) (.type "BaseException") = some true
  tyC : PySem.W.typeIn K (.ref (cls c)) = some (.type "type")
  ini : match k with
    | none => PySem.W.excIn K (cls c) veMro "ValueError.__new__" = true
    | some f => OexC K (cls c) ∧ PySem.W.findIn K (.ref (cls c)) f = some none ∧ ∃ (aI : Addr) (fd : FuncData) (x qual : Str) (params : Arguments) (scope : Scope) (a g : Str) (p1 p2 p3 p4 : Pos), PySem.W.findIn K (.ref (cls c)) "__init__" = some (some (.ref aI)) ∧ PySem.W.typeIn K (.ref aI) = some (.type "function") ∧ Binds K fd [a, g] [] ∧
        FunD K x qual params [.Assign [.Attribute (.Name a p1) f p2] (.Name g p3) p4] scope [] [] aI fd ∧ FnScope [a, g] [a, g] scope ∧ ((a == ("__debug__" : Str)) = false ∧ (g == ("__debug__" : Str)) = false ∧ (a == ("__classdict__" : Str)) = false ∧ (g == ("__classdict__" : Str)) = false)
structure StTab : Prop where
  glo : ∀ x v, Pg.glo x = some v → isRef v = false ∧ ∃ u, mg x = some u ∧ RelV v u
  fn : ∀ f F, Pg.fn f = some F → DefOk K Pg F (cls.ad f) ∧ (F.top = true → mg f = some (.ref (cls.ad f)))
  meth : ∀ c m f, Pg.meth c m = some f → ∃ F, Pg.fn f = some F ∧ Cls K (cls c) ∧ Meth K (cls c) m (cls.ad f)
  made : ∀ c f, Pg.meth c "__init__" = some f → Pg.made c = true → mg c = some (.ref (cls c)) ∧ Mk K (cls c) (cls.ad f)
  fld : ∀ c f, Pg.fld c f = true → Cls K (cls c) ∧ NoAttr K (cls c) f
  cm : ∀ c m f, Pg.cm c m = some f → ∃ F, Pg.fn f = some F ∧ mg c = some (.ref (cls c)) ∧ CmF K (cls c) m (cls.ad f)
  exk : ∀ c k, Pg.exk c = some k → ExD K mg cls c k
  sub : ∀ c k b, Pg.sub c k = some b → ExS K cls c k b
  kls : ∀ k, Pg.kls k = true → if k = "ValueError" then mg k = none else mg k = some (.ref (cls k))
  xfld : ∀ c f, Pg.xfld c f = true → ExcT K (cls c) ∧ PySem.W.findIn K (.ref (cls c)) f = some none
  bad : ∀ c k b, Pg.sub c k = some b → cls.bad (.ref (cls c)) = Pg.bad c
  badk : ∀ c k, Pg.exk c = some k → Pg.bad c = true → cls.bad (.ref (cls c)) = true
  set_ : mg "set" = none
  bi : ∀ b, mg (biN b) = none
  isi : mg "isinstance" = none
  rng : mg "range" = none
  enu : mg "enumerate" = none
  ty : ∀ t, Pg.ty t = true → mg t = none
end
section
variable {P : Program} {w : World} {K : PySem.W.Frag} {mg : Str → Option Value} {base : Heap} {cls : Cz} {Pg : Prog}
theorem gx_body {xi : Nat → Addr → Value → Option Addr → Prop} {h : Bool} {N ps : List Str} {qual : Str} {scope : Scope} {f : Addr} {cd : Value} {A : Around} {outer : List Env} {s : Shared} {H : Hp} {E : XK} {k : Nat} {pn : List (Addr × Obj)} (S : FnScope N ps scope) (hm : MdA K cls.bad (exX xi) h (A.deeper (envOfC qual scope s.heap.objs.size f cd)) pn) (hr : RoomH k (A.deeper (envOfC qual scope s.heap.objs.size f cd))) :
    GX P w K mg base (cls.x xi) k ⟨N, scope, ownOf N scope⟩ (.on h) (cxU (Out cls.bad P w) P w K mg base N qual scope f cd A outer s H E h pn) where
  prog := rfl
  w := rfl
  k := rfl
  mg := rfl
  base := rfl
  n := rfl
  nd := S.nd
  scope := rfl
  kind := S.kind
  calm := fun e => by
    cases e
    rfl
  hd0 := fun e => by
    cases e
    exact hm.calm rfl
  hot := fun e => by
    cases e
    exact hm.hot rfl
  pin := hm.pin
  room := hr
  own := fun x hx => ⟨ownOf_ok hx, .inl rfl⟩
  top := ⟨_, _, rfl, rfl, rfl⟩
/-- the promise of a def whose callees keep theirs -/
theorem fnU_succ {d lv : Nat} (T : Tab P w K mg base cls Pg (callN Pg d) lv) {f : Str} {F : Fn} (hf : Pg.fn f = some F) {x qual : Str} {params : Arguments} {body : List Stmt} {scope : Scope} {dvs : List V} {kws : List (Str × V)} {fd : FuncData} {a : Addr} (FD : FunD K x qual params body scope dvs kws a fd)
    (FS : FnScope F.N F.ps scope) (hc : chk Pg F.body ⟨F.N, scope, ownOf F.N scope⟩ (.ss body) = true) (h : Bool) (xi : Nat → Addr → Value → Option Addr → Prop) : FnU cls.bad (exX xi) h P w K mg base (Out cls.bad P w) (lv + 2) a fd F.ps (spI (cls.x xi) (callN Pg (d + 1) h) f F.ps.length) := by
  refine FunD.okU (k := lv + 1) FD FS ?_ ?_
  · intro vs H Q E ⟨as, st, xs, hl, _, r, _⟩
    rw [← hl]
    exact (Mi.P.length r).symm
  · intro cdv A outer s H vs Q E pn hm hr ⟨as, st, xs, hl, R0, r, hP⟩
    have hG : HG P w K mg base (cls.x xi) lv ⟨F.N, scope, ownOf F.N scope⟩ (.on h) (fun X => X = cxU (Out cls.bad P w) P w K mg base F.N qual scope a cdv A outer s H E h pn) (fun c d _ H' => E c d H') := by
      intro X hX
      subst hX
      exact ⟨gx_body FS hm hr, tk_leave rfl rfl rfl rfl⟩
    have hD : HD (fun X => X = cxU (Out cls.bad P w) P w K mg base F.N qual scope a cdv A outer s H E h pn) := by
      intro X hX
      subst hX
      exact ⟨passes_of rfl, rfl, rfl⟩
    have key := good T F.body xi _ _ _ _ hG _ hc hD
    obtain ⟨t, ht, q⟩ := key (start F.N xs) st as (start F.N vs) H { nx := fun _ H' => Q .non H', rt := Q } R0 (SR.start r) (by
      have e : callN Pg (d + 1) h f xs st = (match run Pg (callN Pg d) F.body (.on h) (start F.N xs) st with
        | .ret v st' => .val [v] st'
        | .nxt _ st' => .val [.non] st'
        | .exc c fs _ st' => .exc c fs [] st'
        | _ => .stk) := by
        show (match Pg.fn f with
          | none => Mi.R.stk
          | some F => _) = _
        rw [hf]
        dsimp only
        rw [if_pos ⟨by omega, by omega⟩, hl, show F.ps.length + F.dfl.length - F.ps.length = F.dfl.length from by omega, List.drop_length, List.append_nil]
        all_goals rfl
      rw [e] at hP
      revert hP
      cases run Pg (callN Pg d) F.body (.on h) (start F.N xs) st with
      | ret v st' => exact fun hP => hP
      | nxt env st' => exact fun hP as' σ H' p R' S' => hP as' .non H' p R' rfl
      | exc c fs env st' => exact fun hP as' σ H' cv dd p R' S' x => hP as' H' cv dd p R' x
      | val vs st' => exact fun hP => hP.elim
      | stk => exact fun hP => hP.elim)
    exact ⟨t, ht _ rfl, q⟩
theorem fnT_succ (St : StTab K mg cls Pg) {d lv : Nat} (T : Tab P w K mg base cls Pg (callN Pg d) lv) {f : Str} {F : Fn} (hf : Pg.fn f = some F) : FnT P w K mg base cls (callN Pg (d + 1)) (lv + 2) f F (cls.ad f) := by
  obtain ⟨⟨⟨x, qual, params, body, scope, dvs, kws, fd, FD, FS, hc, hb⟩, hd, hk⟩, _⟩ := St.fn f F hf
  exact ⟨⟨fd, fnU_succ T hf FD FS hc, hb⟩, hd, hk⟩
theorem fnT_zero (St : StTab K mg cls Pg) {lv : Nat} {f : Str} {F : Fn} (hf : Pg.fn f = some F) : FnT P w K mg base cls (callN Pg 0) lv f F (cls.ad f) := by
  obtain ⟨⟨⟨x, qual, params, body, scope, dvs, kws, fd, FD, FS, hc, hb⟩, hd, hk⟩, _⟩ := St.fn f F hf
  refine ⟨⟨fd, fun h xi => ⟨?_, ?_⟩, hb⟩, hd, hk⟩
  · intro vs H Q E ⟨as, st, xs, hl, _, r, _⟩
    rw [← hl]
    exact (Mi.P.length r).symm
  · intro A outer s H args us vs Q E pn _ _ _ _ _ _ ⟨as, st, xs, hl, _, r, hP⟩
    exact hP.elim
theorem tab_of (St : StTab K mg cls Pg) {d lv : Nat} (l1 : 1 ≤ lv) (h : ∀ f F, Pg.fn f = some F → FnT P w K mg base cls (callN Pg d) lv f F (cls.ad f)) : Tab P w K mg base cls Pg (callN Pg d) lv where
  lv1 := l1
  glo := St.glo
  fn := fun f F hf ht => ⟨cls.ad f, (St.fn f F hf).2 ht, h f F hf⟩
  meth := fun c m f hm => by
    obtain ⟨F, hf, h1, h2⟩ := St.meth c m f hm
    exact ⟨F, cls.ad f, hf, h1, h2, h f F hf⟩
  made := fun c f hm hmd => by
    obtain ⟨F, hf, h1, h2⟩ := St.meth c _ f hm
    obtain ⟨g1, g2⟩ := St.made c f hm hmd
    exact ⟨F, cls.ad f, hf, g1, g2, h f F hf⟩
  fld := St.fld
  cm := fun c m f hm => by
    obtain ⟨F, hf, h1, h2⟩ := St.cm c m f hm
    exact ⟨F, cls.ad f, hf, h1, h2, h f F hf⟩
  exk := fun c k hk => by
    obtain ⟨e1, e2, e3, e4, e5⟩ := St.exk c k hk
    refine ⟨e1, e2, e3, e4, ?_⟩
    cases k with
    | none => exact e5
    | some f =>
      obtain ⟨o1, o2, aI, fd, x, qual, params, scope, a, g, p1, p2, p3, p4, i1, i2, i3, i4, i5, i6, i7, i8, i9⟩ := e5
      exact ⟨o1, o2, aI, fd, [a, g], i1, i2, i3, fun h xi => init_ok i4 i5 i6 i7 i8 i9⟩
  sub := St.sub
  kls := St.kls
  xfld := St.xfld
  bad := St.bad
  badk := St.badk
  set_ := St.set_
  bi := St.bi
  isi := St.isi
  rng := St.rng
  enu := St.enu
  ty := St.ty
  full := fun hh f F xs st hf => by
    cases d with
    | zero => exact ⟨fun _ => rfl, fun _ => rfl⟩
    | succ d =>
      have e : ∀ xs, callN Pg (d + 1) hh f xs st = (if xs.length ≤ F.ps.length ∧ F.ps.length ≤ xs.length + F.dfl.length then
        (match run Pg (callN Pg d) F.body (.on hh) (start F.N (xs ++ F.dfl.drop (xs.length + F.dfl.length - F.ps.length))) st with
        | .ret v st' => .val [v] st'
        | .nxt _ st' => .val [.non] st'
        | .exc c fs _ st' => .exc c fs [] st'
        | _ => .stk) else .stk) := by
        intro xs
        show (match Pg.fn f with
          | none => Mi.R.stk
          | some F => _) = _
        rw [hf]
        all_goals rfl
      constructor
      · intro ⟨h1, h2⟩
        have hl : (xs ++ F.dfl.drop (xs.length + F.dfl.length - F.ps.length)).length = F.ps.length := by
          rw [List.length_append, List.length_drop]
          omega
        rw [e, e, if_pos ⟨h1, h2⟩, hl, if_pos ⟨by omega, by omega⟩, show F.ps.length + F.dfl.length - F.ps.length = F.dfl.length from by omega, List.drop_length, List.append_nil]
      · intro hn
        rw [e, if_neg hn]
  none_ := fun hh f xs st hf => by
    cases d with
    | zero => rfl
    | succ d =>
      show (match Pg.fn f with
        | none => Mi.R.stk
        | some F => _) = _
      rw [hf]
theorem tabs (St : StTab K mg cls Pg) : ∀ d, Tab P w K mg base cls Pg (callN Pg d) (2 * d + 1)
  | 0 => tab_of St (Nat.le_refl _) fun f F hf => fnT_zero St hf
  | d + 1 => tab_of St (by omega) fun f F hf => fnT_succ St (tabs St d) hf
end
end Mi
set_option maxHeartbeats 400000
/-! Mi: a program's table as data; what the head must tell of it; the law's end. -/
namespace Mi
open PySem PySem.Spec PyProof.Rows L2 L2H
structure Dx where
  key : Str
  at_ : Str × Option Str
  name : Str
  qual : Str
  params : Arguments
  body : List Stmt
  scope : Scope
  F : Fn
structure PgD where
  defs : List Dx
  meths : List (Str × Str × Str) := []
  mades : List Str := []
  flds : List (Str × Str) := []
  tys : List Str := []
  cms : List (Str × Str × Str) := []
  gInts : List (Str × Int) := []
  gStrs : List (Str × Str) := []
  /-- own exceptions that are raised: none, or the field and the key of the own __init__ -/
  excs : List (Str × Option (Str × Str)) := []
  kls : List Str := []
  subs : List (Str × Str × Bool) := []
  xflds : List (Str × Str) := []
  bads : List Str := []
def PgD.find (D : PgD) (f : Str) : Option Dx := D.defs.find? fun x => decide (x.key = f)
def PgD.gloOf (D : PgD) (x : Str) : Option V := match D.gInts.find? fun p => decide (p.1 = x) with
  | some p => some (.int p.2)
  | none => match D.gStrs.find? fun p => decide (p.1 = x) with
    | some p => some (.str p.2)
    | none => none
def PgD.pg (D : PgD) : Prog where
  fn := fun f => (D.find f).map (·.F)
  cm := fun c m => (D.cms.find? fun p => decide (p.1 = c ∧ p.2.1 = m)).map (·.2.2)
  meth := fun c m => (D.meths.find? fun p => decide (p.1 = c ∧ p.2.1 = m)).map (·.2.2)
  glo := D.gloOf
  made := fun c => decide (c ∈ D.mades)
  fld := fun c f => decide ((c, f) ∈ D.flds)
  ty := fun t => decide (t ∈ D.tys)
  exk := fun c => (D.excs.find? fun p => decide (p.1 = c)).map fun p => p.2.map (·.1)
  kls := fun k => decide (k ∈ D.kls)
  sub := fun c k => (D.subs.find? fun p => decide (p.1 = c ∧ p.2.1 = k)).map (·.2.2)
  xfld := fun c f => decide ((c, f) ∈ D.xflds)
  bad := fun c => decide (c ∈ D.bads)
def dvOf : V → He.Dv
  | .bl b => .bl b
  | .int i => .int i
  | .str x => .str x
  | .byt b => .byt b
  | .flt b => .flt b
  | .ty n => .ty n
  | _ => .non
theorem dvOf_v {K : PySem.W.Frag} : ∀ {v : V}, isRef v = false → (dvOf v).v K = v
  | .non, _ => rfl
  | .bl _, _ => rfl
  | .int _, _ => rfl
  | .str _, _ => rfl
  | .byt _, _ => rfl
  | .flt _, _ => rfl
  | .ty _, _ => rfl
def Dx.d (x : Dx) : He.DefD := ⟨x.at_, x.name, x.qual, x.params, x.body, x.scope, x.F.dfl.map dvOf, []⟩
def allBi : List Bi := [.len, .list, .any, .all, .str, .int, .abs, .sum, .tuple, .reversed]
/-- what is asked of the head -/
def PgD.fas (D : PgD) : List He.Fa :=
  (allBi.map fun b => .free (biN b)) ++ ([.free "isinstance", .free "range", .free "enumerate"] ++ (D.tys.map .free ++ (((D.defs.filter (·.F.top)).map fun x => .glo x.key) ++
  ((D.meths.flatMap fun p => [.cls p.1, .meth p.1 p.2.1]) ++ ((D.mades.flatMap fun c => [.glo c, .mkr c]) ++ ((D.flds.flatMap fun p => [.cls p.1, .noat p.1 p.2]) ++ ((D.gInts.map fun p => .int p.1 p.2) ++ ((D.gStrs.map fun p => .str p.1 p.2) ++ (.free "set" :: ((D.cms.flatMap fun p => [.glo p.1, .meth p.1 p.2.1]) ++ ((D.excs.flatMap fun p => .glo p.1 :: (if p.2.isNone then [.exc p.1] else [])) ++ D.kls.map fun k => if k = ("ValueError" : Str) then .free k else .glo k)))))))))))
/-- facts of our own: a method that a class inherits; a function read off a class -/
inductive Xf where
  | inh (c m c' : Str)
  | cmf (c m : Str)
  | exi (c f : Str)
  | sub (c k : Str) (b : Bool)
  | xf (c f : Str)
  | bad (c : Str) (bs : List Str)
/-- an own exception's class with an own __init__ -/
def oexB (K : PySem.W.Frag) (C : Addr) : Bool := match K.lookup C with
  | some ⟨.type "type", _, .cls ⟨_, _, .ref C' :: bm, _, _, true, _, _, _, _, false⟩, sl⟩ => (match sl.toList with
    | [_, _, _, _, some (.builtin n), _] => decide (C' = C) && (decide (n = "ValueError.__new__") && PySem.HandSPX.refsVE bm)
    | _ => false)
  | _ => false
theorem oexB_ok {K : PySem.W.Frag} {C : Addr} (h : oexB K C = true) : ∃ nm q N bs bm sn sub ab col dd k0 k1 k2 k3 k5, K.lookup C = some (excClassObj nm q C N bs bm true sn sub ab col dd k0 k1 k2 k3 k5 "ValueError.__new__") ∧ PySem.HandSPX.refsVE bm = true := by
  unfold oexB at h
  split at h
  · rename_i dd nm bs C' bm ns qn sn sub ab col sl ho
    split at h
    · rename_i k0 k1 k2 k3 n k5 hs
      obtain ⟨h1, h2⟩ := and2 h
      obtain ⟨h2, h3⟩ := and2 h2
      cases dcd h1
      cases dcd h2
      have hsl : sl = #[k0, k1, k2, k3, some (.builtin "ValueError.__new__"), k5] := by
        obtain ⟨l⟩ := sl
        simp only at hs
        rw [hs]
      subst hsl
      exact ⟨nm, _, _, bs, bm, sn, sub, ab, col, dd, k0, k1, k2, k3, k5, ho, h3⟩
    · cases h
  · cases h
def kVa (K : PySem.W.Frag) (k : Str) : Value := if k = ("ValueError" : Str) then .type "ValueError" else .ref (He.ga K k)
def Xf.ok (K : PySem.W.Frag) : Xf → Bool
  | .exi c f => oexB K (He.ga K c) && (He.eqO (PySem.W.findIn K (.ref (He.ga K c)) "__setattr__") (some (some (.builtin "object.__setattr__"))) && (decide (PySem.W.subIn K (.ref (He.ga K c)) (.type "BaseException") = some true) && (decide (PySem.W.typeIn K (.ref (He.ga K c)) = some (.type "type")) && (PySem.W.keepIn K (.ref (He.ga K c)) &&
    (He.eqO (PySem.W.findIn K (.ref (He.ga K c)) f) (some none) && (He.eqO (PySem.W.findIn K (.ref (He.ga K c)) "__init__") (some (some (.ref (He.ma K (He.ga K c) "__init__")))) && decide (PySem.W.typeIn K (.ref (He.ma K (He.ga K c) "__init__")) = some (.type "function"))))))))
  | .sub c k b => decide (PySem.W.exmOne K (.ref (He.ga K c)) (kVa K k) = some b) && (decide (PySem.W.kitOne K (.ref (He.ga K c)) (kVa K k) = some b) && (excTB K (He.ga K c) && (decide (PySem.W.subIn K (.ref (He.ga K c)) (.type "BaseException") = some true) && decide (PySem.W.typeIn K (.ref (He.ga K c)) = some (.type "type")))))
  | .xf c f => excTB K (He.ga K c) && He.eqO (PySem.W.findIn K (.ref (He.ga K c)) f) (some none)
  | .bad c bs => decide ((bs.any fun n => decide (He.ga K n = He.ga K c)) = decide (c ∈ bs))
  | .inh c m c' => decide (He.ma K (He.ga K c) m = He.ma K (He.ga K c') m)
  | .cmf c m => PySem.W.readsIn K (He.ga K c) (.type "type") && (He.eqO (PySem.W.specialIn K (.ref (He.ga K c)) "__getattribute__") (some (some (.builtin "type.__getattribute__"))) &&
    (match PySem.W.findCls K (.ref (He.ga K c)) (.type "type") m with
    | some (.val (.ref a)) => decide (a = He.ma K (He.ga K c) m)
    | _ => false))
def PgD.inhs (D : PgD) (p : Str × Str × Str) : List Xf := match D.find p.2.2 with
  | some x => if x.at_.1 = p.1 then [] else [.inh p.1 p.2.1 x.at_.1]
  | none => []
def PgD.xfs (D : PgD) : List Xf := D.meths.flatMap D.inhs ++ (D.cms.flatMap D.inhs ++ ((D.cms.map fun p => .cmf p.1 p.2.1) ++ ((D.excs.flatMap fun p => match p.2 with
  | none => []
  | some q => [.exi p.1 q.1]) ++ ((D.subs.flatMap fun p => [.sub p.1 p.2.1 p.2.2, .bad p.1 D.bads]) ++ D.xflds.map fun p => .xf p.1 p.2))))
def PgD.fns (D : PgD) : List He.DefD := D.defs.map Dx.d
/-- the text against the table -/
def Dx.okB (D : PgD) (x : Dx) : Bool := C8.scC x.F.N x.F.ps x.scope && (chk D.pg x.F.body ⟨x.F.N, x.scope, ownOf x.F.N x.scope⟩ (.ss x.body) && (x.F.dfl.all (fun v => !isRef v) && (!x.F.top || decide (x.at_ = (x.key, none)))))
def PgD.okM (D : PgD) (p : Str × Str × Str) : Bool := match D.find p.2.2 with
  | some x => decide (x.at_.2 = some p.2.1)
  | none => false
/-- an own exception's __init__ -/
def PgD.okE (D : PgD) (p : Str × Option (Str × Str)) : Bool := match p.2 with
  | none => true
  | some (f, key) => match D.find key with
    | some x => decide (x.at_ = (p.1, some ("__init__" : Str))) && (match x.body, x.F.ps, x.F.dfl with
      | [.Assign [.Attribute (.Name a _) f' _] (.Name g _) _], [a', g'], [] => decide (a = a') && (decide (g = g') && (decide (f' = f) && (decide (x.F.N = [a, g]) && (!(a == ("__debug__" : Str)) && (!(g == ("__debug__" : Str)) && (!(a == ("__classdict__" : Str)) && !(g == ("__classdict__" : Str))))))))
      | _, _, _ => false)
    | none => false
def PgD.okB (D : PgD) : Bool := D.defs.all (Dx.okB D) && ((D.meths.all D.okM && D.cms.all D.okM) && D.excs.all D.okE)
/-- a def binds what it is given -/
def BindsOk (x : Dx) : Prop := ∀ (K : PySem.W.Frag) (a : Addr) (fd : FuncData), FunD K x.name x.qual x.params x.body x.scope x.F.dfl [] a fd →
  ∀ n, n ≤ x.F.ps.length → x.F.ps.length ≤ n + x.F.dfl.length → ∃ ds, Vals (x.F.dfl.drop (n + x.F.dfl.length - x.F.ps.length)) ds ∧ Binds K fd x.F.ps ds
theorem bindsOk0 {x : Dx} (hd : x.F.dfl = []) (h : ∀ (kV doc pm : Value) (an : Option Addr) (cdv ct : Value) (us : List Value), us.length = x.F.ps.length → bindArgs (PySem.W.fnOf x.name x.qual x.params x.body x.scope .none kV doc pm an cdv ct) ⟨us, []⟩ = pure (x.F.ps.zip us)) : BindsOk x := by
  intro K a fd F n h1 h2
  rw [hd] at F h2 ⊢
  refine ⟨[], ?_, F.bindsN h⟩
  rw [List.drop_nil]
  exact .nil
/-! ### the head's Hook -/
/-- no list stands in the written part -/
def noList (K : PySem.W.Frag) : Bool := K.all fun p => match p.2.cls with
  | .type c => !decide (c = "list")
  | _ => true
theorem noList_ok : ∀ {K : PySem.W.Frag} {a : Addr} {o : Obj}, noList K = true → K.lookup a = some o → o.cls = .type "list" → False
  | [], _, _, _, e, _ => nomatch e
  | (b, ob) :: r, a, o, h, e, hc => by
    obtain ⟨h1, h2⟩ := and2 (show ((match ob.cls with
      | .type c => !decide (c = "list")
      | _ => true) && noList r) = true from h)
    have e2 : (match a == b with | true => some ob | false => List.lookup a r) = some o := e
    cases q : (a == b) with
    | true =>
      rw [q] at e2
      have eo : ob = o := Option.some.inj e2
      rw [eo, hc] at h1
      exact absurd h1 (by decide)
    | false =>
      rw [q] at e2
      exact noList_ok h2 e2 hc
abbrev AlM : Type := Bool × He.AlD
def obsM (xs : List Xf) (fa : List He.Fa) (fn : List He.DefD) (K : PySem.W.Frag) : AlM := (noList K && xs.all fun x => x.ok K, He.obsD fa fn K)
def valM (fn : List He.DefD) : AlM := (true, He.valD fn)
def SaysM (xs : List Xf) (fa : List He.Fa) (fn : List He.DefD) (K : PySem.W.Frag) : Prop := obsM xs fa fn K = valM fn
/-- what a def, a class names of what we look at -/
def heldO (g : Addr → Option Obj) (a : Addr) : List Addr := match g a with
  | some o => (match o.data with
    | .func fd => He.refV fd.code ++ He.refV fd.defaults
    | .cls cd => [cd.ns]
    | _ => [])
  | none => []
def valsO (g : Addr → Option Obj) (a : Addr) : List Addr := match g a with
  | some o => (match o.data with
    | .dict es _ => es.toList.flatMap fun e => He.refV e.val
    | _ => [])
  | none => []
/-- the globals, what they stand for, the classes' names, the methods -/
def asM2 (g : Addr → Option Obj) (L1 L2 : List Addr) : List Addr := L1 ++ (L2 ++ (L2.flatMap (valsO g) ++ (L2.flatMap (valsO g)).flatMap (heldO g)))
def asM1 (g : Addr → Option Obj) (L1 : List Addr) : List Addr := asM2 g L1 (L1.flatMap (heldO g))
def asM (g : Addr → Option Obj) : List Addr := mainGlobals :: cStatics :: asM1 g (valsO g mainGlobals)
def obsMG (n : Nat) (xs : List Xf) (fa : List He.Fa) (fn : List He.DefD) (g : Addr → Option Obj) : AlM := obsM xs fa fn (He.frG g (asM g))
def hookM (n : Nat) (xs : List Xf) (fa : List He.Fa) (fn : List He.DefD) : PySem.W.Hook where
  α := AlM
  obs := fun s => obsMG n xs fa fn s.heap.get?
  val := fun _ => valM fn
  says := fun _ h => ∃ K : PySem.W.Frag, K.In h ∧ SaysM xs fa fn K
  of := fun _ _ e => ⟨_, He.frG_in, e⟩
  keeps := fun _ _ _ ⟨K, hK, c⟩ k => ⟨K, PySem.W.Frag.In.keeps hK k, c⟩
theorem obsMG_eq {n : Nat} {xs : List Xf} {fa : List He.Fa} {fn : List He.DefD} {g : Addr → Option Obj} {s : Shared} (h : ∀ a, g a = s.heap.get? a) : obsMG n xs fa fn g = (hookM n xs fa fn).obs s := by
  have e : g = s.heap.get? := funext h
  rw [e]
  rfl
section
variable {D : PgD} {K : PySem.W.Frag} {h : Heap} {mg : Str → Option Value}
theorem SaysM.d {xs : List Xf} {fa : List He.Fa} {fn : List He.DefD} (c : SaysM xs fa fn K) : He.SaysD fa fn K := congrArg (fun z : AlM => z.2) c
theorem SaysM.nl {xs : List Xf} {fa : List He.Fa} {fn : List He.DefD} (c : SaysM xs fa fn K) : noList K = true := (and2 (show (noList K && xs.all fun x => x.ok K) = true from congrArg (fun z : AlM => z.1) c)).1
theorem SaysM.x {xs : List Xf} {fa : List He.Fa} {fn : List He.DefD} (c : SaysM xs fa fn K) {x : Xf} (hx : x ∈ xs) : x.ok K = true := List.all_eq_true.mp (and2 (show (noList K && xs.all fun x => x.ok K) = true from congrArg (fun z : AlM => z.1) c)).2 x hx
theorem fact_of {fa : List He.Fa} {fn : List He.DefD} (c : He.SaysD fa fn K) {f : He.Fa} (hf : f ∈ fa) : f.ok K = true := by
  have c1 := (and2 (show ((fa.all fun f => f.ok K) && fn.all fun d => d.ok K) = true from congrArg (fun z : He.AlD => z.1) c)).1
  exact List.all_eq_true.mp c1 f hf
theorem def_of {fa : List He.Fa} {fn : List He.DefD} (c : He.SaysD fa fn K) {d : He.DefD} (hd : d ∈ fn) : (∃ fd, FunD K d.name d.qual d.params d.body d.scope (d.dvs K) (d.kws K) (He.fAd K d.at_) fd) ∧ PySem.W.keepIn K (.ref (He.fAd K d.at_)) = true := by
  obtain ⟨i, hi⟩ := List.mem_iff_getElem?.mp hd
  refine ⟨c.def_ i hi, ?_⟩
  have c1 := (and2 (show ((fa.all fun f => f.ok K) && fn.all fun d => d.ok K) = true from congrArg (fun z : He.AlD => z.1) c)).2
  exact (and2 (show (PySem.W.keepIn K (.ref (He.fAd K d.at_)) && _) = true from List.all_eq_true.mp c1 d hd)).1
theorem mem_app {α : Type} {x : α} {l r : List α} (h : x ∈ l ∨ x ∈ r) : x ∈ l ++ r := List.mem_append.mpr h
theorem al {α : Type} {x : α} {l r : List α} (h : x ∈ l) : x ∈ l ++ r := mem_app (.inl h)
theorem ar {α : Type} {x : α} {l r : List α} (h : x ∈ r) : x ∈ l ++ r := mem_app (.inr h)
def adOf (D : PgD) (K : PySem.W.Frag) (f : Str) : Addr := match D.find f with
  | some x => He.fAd K x.at_
  | none => 0
theorem find_mem {f : Str} {x : Dx} (h : D.find f = some x) : x ∈ D.defs ∧ x.key = f := ⟨List.mem_of_find?_eq_some h, of_decide_eq_true (List.find?_some (p := fun x : Dx => decide (x.key = f)) h)⟩
theorem dvs_of {x : Dx} (h : x.F.dfl.all (fun v => !isRef v) = true) : x.d.dvs K = x.F.dfl := by
  have : ∀ l : List V, l.all (fun v => !isRef v) = true → (l.map dvOf).map (He.Dv.v K) = l := by
    intro l
    induction l with
    | nil => intro _; rfl
    | cons v l ih =>
      intro h
      obtain ⟨h1, h2⟩ := and2 (show (!isRef v && l.all _) = true from h)
      rw [List.map_cons, List.map_cons, dvOf_v (by simpa using h1), ih h2]
  exact this _ h
/-- the head's word gives the table -/
def PgD.cz (D : PgD) (K : PySem.W.Frag) : Cz := ⟨He.ga K, adOf D K, fun v => D.bads.any fun n => decide (v = .ref (He.ga K n)), fun _ _ _ _ => False⟩
theorem stTab (S : D.okB = true) (B : ∀ x ∈ D.defs, BindsOk x) (X : K.In h) (G : h.Ns mainGlobals mg) (cM : SaysM D.xfs D.fas D.fns K) : StTab K mg (D.cz K) D.pg := by
  have c := cM.d
  obtain ⟨S1, S0⟩ := and2 (show (D.defs.all (Dx.okB D) && ((D.meths.all D.okM && D.cms.all D.okM) && D.excs.all D.okE)) = true from S)
  obtain ⟨S0, S4⟩ := and2 S0
  obtain ⟨S2, S3⟩ := and2 S0
  have inFa : ∀ {f : He.Fa}, f ∈ D.fas → f.ok K = true := fun hf => fact_of c hf
  have fre : ∀ b, mg (biN b) = none := fun b => He.free_ok X G (inFa (al (List.mem_map.mpr ⟨b, by cases b <;> decide, rfl⟩)))
  have okm : ∀ {p : Str × Str × Str}, D.okM p = true → (∀ x ∈ D.inhs p, x ∈ D.xfs) → ∃ x, D.find p.2.2 = some x ∧ adOf D K p.2.2 = He.ma K (He.ga K p.1) p.2.1 := fun {p} ho hin => by
    unfold PgD.okM at ho
    split at ho
    · rename_i x hx
      refine ⟨x, hx, ?_⟩
      have e2 := of_decide_eq_true ho
      have ea : adOf D K p.2.2 = He.fAd K x.at_ := by
        unfold adOf
        rw [hx]
      have eb : He.fAd K x.at_ = He.ma K (He.ga K x.at_.1) p.2.1 := by
        unfold He.fAd
        rw [e2]
      rw [ea, eb]
      by_cases hc : x.at_.1 = p.1
      · rw [hc]
      · have hm : Xf.inh p.1 p.2.1 x.at_.1 ∈ D.inhs p := by
          unfold PgD.inhs
          rw [hx]
          dsimp only
          rw [if_neg hc]
          exact List.mem_cons_self ..
        have := of_decide_eq_true (show decide (He.ma K (He.ga K p.1) p.2.1 = He.ma K (He.ga K x.at_.1) p.2.1) = true from cM.x (hin _ hm))
        exact this.symm
    · cases ho
  have loc : ∀ {c m f : Str}, D.pg.meth c m = some f → (c, m, f) ∈ D.meths ∧ ∃ x, D.find f = some x ∧ adOf D K f = He.ma K (He.ga K c) m := by
    intro c m f hm
    obtain ⟨p, hp, e⟩ := Option.map_eq_some_iff.mp hm
    have e1 := of_decide_eq_true (List.find?_some (p := fun p : Str × Str × Str => decide (p.1 = c ∧ p.2.1 = m)) hp)
    have hmem := List.mem_of_find?_eq_some hp
    obtain ⟨p1, p2, p3⟩ := p
    obtain ⟨rfl, rfl⟩ := e1
    have e : p3 = f := e
    subst e
    exact ⟨hmem, okm (List.all_eq_true.mp S2 _ hmem) fun x hx => al (List.mem_flatMap.mpr ⟨_, hmem, hx⟩)⟩
  have locC : ∀ {c m f : Str}, D.pg.cm c m = some f → (c, m, f) ∈ D.cms ∧ ∃ x, D.find f = some x ∧ adOf D K f = He.ma K (He.ga K c) m := by
    intro c m f hm
    obtain ⟨p, hp, e⟩ := Option.map_eq_some_iff.mp hm
    have e1 := of_decide_eq_true (List.find?_some (p := fun p : Str × Str × Str => decide (p.1 = c ∧ p.2.1 = m)) hp)
    have hmem := List.mem_of_find?_eq_some hp
    obtain ⟨p1, p2, p3⟩ := p
    obtain ⟨rfl, rfl⟩ := e1
    have e : p3 = f := e
    subst e
    exact ⟨hmem, okm (List.all_eq_true.mp S3 _ hmem) fun x hx => ar (al (List.mem_flatMap.mpr ⟨_, hmem, hx⟩))⟩
  have faM : ∀ {p : Str × Str × Str}, p ∈ D.meths → (He.Fa.cls p.1).ok K = true ∧ (He.Fa.meth p.1 p.2.1).ok K = true := fun {p} hp =>
    ⟨inFa (ar (ar (ar (ar (al (List.mem_flatMap.mpr ⟨p, hp, List.mem_cons_self ..⟩)))))),
     inFa (ar (ar (ar (ar (al (List.mem_flatMap.mpr ⟨p, hp, List.mem_cons_of_mem _ (List.mem_cons_self ..)⟩))))))⟩
  have inE : ∀ {f : He.Fa}, f ∈ (D.excs.flatMap fun p => He.Fa.glo p.1 :: (if p.2.isNone then [He.Fa.exc p.1] else [])) → f.ok K = true := fun hf => inFa (ar (ar (ar (ar (ar (ar (ar (ar (ar (List.mem_cons_of_mem _ (ar (al hf))))))))))))
  have inK : ∀ {f : He.Fa}, f ∈ (D.kls.map fun k => if k = ("ValueError" : Str) then He.Fa.free k else .glo k) → f.ok K = true := fun hf => inFa (ar (ar (ar (ar (ar (ar (ar (ar (ar (List.mem_cons_of_mem _ (ar (ar hf))))))))))))
  have subF : ∀ {c k : Str} {b : Bool}, D.pg.sub c k = some b → (Xf.sub c k b).ok K = true ∧ (Xf.bad c D.bads).ok K = true := fun {c k b} hs => by
    obtain ⟨p, hp, e⟩ := Option.map_eq_some_iff.mp (show (D.subs.find? fun p => decide (p.1 = c ∧ p.2.1 = k)).map (·.2.2) = some b from hs)
    have e1 := of_decide_eq_true (List.find?_some (p := fun p : Str × Str × Bool => decide (p.1 = c ∧ p.2.1 = k)) hp)
    have hmem := List.mem_of_find?_eq_some hp
    obtain ⟨p1, p2, p3⟩ := p
    obtain ⟨rfl, rfl⟩ := e1
    have e : p3 = b := e
    subst e
    exact ⟨cM.x (ar (ar (ar (ar (al (List.mem_flatMap.mpr ⟨_, hmem, List.mem_cons_self ..⟩)))))), cM.x (ar (ar (ar (ar (al (List.mem_flatMap.mpr ⟨_, hmem, List.mem_cons_of_mem _ (List.mem_cons_self ..)⟩))))))⟩
  refine ⟨?_, ?_, ?_, ?_, ?_, ?_, ?_, ?_, ?_, ?_, ?_, ?_, ?_, fre, ?_, ?_, ?_, ?_⟩
  · intro x v hv
    have hv : D.gloOf x = some v := hv
    unfold PgD.gloOf at hv
    split at hv
    · rename_i p hp
      cases hv
      have e1 := of_decide_eq_true (List.find?_some (p := fun p : Str × Int => decide (p.1 = x)) hp)
      have hmem := List.mem_of_find?_eq_some hp
      obtain ⟨t, q⟩ := He.int_ok X G (inFa (f := .int p.1 p.2) (ar (ar (ar (ar (ar (ar (ar (al (List.mem_map.mpr ⟨p, hmem, rfl⟩))))))))))
      rw [e1] at q
      exact ⟨rfl, _, q, t, rfl⟩
    · split at hv
      · rename_i p hp
        cases hv
        have e1 := of_decide_eq_true (List.find?_some (p := fun p : Str × Str => decide (p.1 = x)) hp)
        have hmem := List.mem_of_find?_eq_some hp
        obtain ⟨t, q⟩ := He.str_ok X G (inFa (f := .str p.1 p.2) (ar (ar (ar (ar (ar (ar (ar (ar (al (List.mem_map.mpr ⟨p, hmem, rfl⟩)))))))))))
        rw [e1] at q
        exact ⟨rfl, _, q, t, rfl⟩
      · cases hv
  · intro f F hf
    obtain ⟨x, hx, rfl⟩ := Option.map_eq_some_iff.mp (show (D.find f).map (·.F) = some F from hf)
    obtain ⟨hm, hkey⟩ := find_mem hx
    obtain ⟨s1, s2⟩ := and2 (show (C8.scC x.F.N x.F.ps x.scope && _) = true from List.all_eq_true.mp S1 x hm)
    obtain ⟨s2, s3⟩ := and2 s2
    obtain ⟨s3, s4⟩ := and2 s3
    obtain ⟨⟨fd, FD⟩, kp⟩ := def_of c (List.mem_map.mpr ⟨x, hm, rfl⟩ : x.d ∈ D.fns)
    have ea : (D.cz K).ad f = He.fAd K x.at_ := by
      show adOf D K f = He.fAd K x.at_
      unfold adOf
      rw [hx]
    rw [ea]
    rw [dvs_of s3] at FD
    refine ⟨⟨⟨_, _, _, _, _, _, _, fd, FD, C8.fnScope_by s1, s2, B x hm K _ fd FD⟩, s3, kp⟩, fun ht => ?_⟩
    have at0 : x.at_ = (x.key, none) := by
      rw [ht] at s4
      exact of_decide_eq_true (by simpa using s4)
    have hg := He.glo_ok X G (inFa (f := .glo x.key) (ar (ar (ar (al (List.mem_map.mpr ⟨x, List.mem_filter.mpr ⟨hm, ht⟩, rfl⟩))))))
    rw [at0, ← hkey]
    exact hg
  · intro c m f hm
    obtain ⟨hmem, x, hx, hat⟩ := loc hm
    obtain ⟨f1, f2⟩ := faM hmem
    refine ⟨x.F, ?_, He.cls_ok f1, ?_⟩
    · show (D.find f).map (·.F) = some x.F
      rw [hx]
      rfl
    · show Meth K (He.ga K c) m (adOf D K f)
      rw [hat]
      exact He.meth_ok f2
  · intro c f hm hmd
    obtain ⟨hmem, x, hx, hat⟩ := loc hm
    have hmd := of_decide_eq_true (show decide (c ∈ D.mades) = true from hmd)
    have g1 : (He.Fa.glo c).ok K = true := inFa (ar (ar (ar (ar (ar (al (List.mem_flatMap.mpr ⟨c, hmd, List.mem_cons_self ..⟩)))))))
    have g2 : (He.Fa.mkr c).ok K = true := inFa (ar (ar (ar (ar (ar (al (List.mem_flatMap.mpr ⟨c, hmd, List.mem_cons_of_mem _ (List.mem_cons_self ..)⟩)))))))
    refine ⟨He.glo_ok X G g1, ?_⟩
    show Mk K (He.ga K c) (adOf D K f)
    rw [hat]
    exact He.mkr_ok g2
  · intro c f hf
    have hf := of_decide_eq_true (show decide ((c, f) ∈ D.flds) = true from hf)
    have g1 : (He.Fa.cls c).ok K = true := inFa (ar (ar (ar (ar (ar (ar (al (List.mem_flatMap.mpr ⟨(c, f), hf, List.mem_cons_self ..⟩))))))))
    have g2 : (He.Fa.noat c f).ok K = true := inFa (ar (ar (ar (ar (ar (ar (al (List.mem_flatMap.mpr ⟨(c, f), hf, List.mem_cons_of_mem _ (List.mem_cons_self ..)⟩))))))))
    exact ⟨He.cls_ok g1, He.noat_ok g2⟩
  · intro c m f hm
    obtain ⟨hmem, x, hx, hat⟩ := locC hm
    have inC : ∀ {f : He.Fa}, f ∈ (D.cms.flatMap fun p => [He.Fa.glo p.1, He.Fa.meth p.1 p.2.1]) → f.ok K = true := fun hf => inFa (ar (ar (ar (ar (ar (ar (ar (ar (ar (List.mem_cons_of_mem _ (al hf)))))))))))
    refine ⟨x.F, ?_, He.glo_ok X G (inC (List.mem_flatMap.mpr ⟨_, hmem, List.mem_cons_self ..⟩)), ?_⟩
    · show (D.find f).map (·.F) = some x.F
      rw [hx]
      rfl
    · show CmF K (He.ga K c) m (adOf D K f)
      rw [hat]
      obtain ⟨x1, x2⟩ := and2 (show (PySem.W.readsIn K (He.ga K c) (.type "type") && _) = true from cM.x (ar (ar (al (List.mem_map.mpr ⟨_, hmem, rfl⟩)))))
      obtain ⟨x2, x3⟩ := and2 x2
      refine ⟨x1, He.eqO_ok x2, ?_⟩
      split at x3
      · rename_i a ea
        rw [ea, of_decide_eq_true x3]
      · cases x3
  · intro c k hk
    obtain ⟨p, hp, e⟩ := Option.map_eq_some_iff.mp (show (D.excs.find? fun p => decide (p.1 = c)).map (fun p => p.2.map (·.1)) = some k from hk)
    have e1 := of_decide_eq_true (List.find?_some (p := fun p : Str × Option (Str × Str) => decide (p.1 = c)) hp)
    have hmem := List.mem_of_find?_eq_some hp
    obtain ⟨p1, p2⟩ := p
    have e1 : p1 = c := e1
    subst e1
    have gl := He.glo_ok X G (inE (List.mem_flatMap.mpr ⟨_, hmem, List.mem_cons_self ..⟩))
    cases p2 with
    | none =>
      have e : none = k := e
      subst e
      have x := inE (f := .exc p1) (List.mem_flatMap.mpr ⟨_, hmem, List.mem_cons_of_mem _ (List.mem_cons_self ..)⟩)
      obtain ⟨x1, x2⟩ := and2 (show (PySem.W.excIn K (He.ga K p1) He.veBase "ValueError.__new__" && _) = true from x)
      obtain ⟨x2, x3⟩ := and2 x2
      obtain ⟨x3, x4⟩ := and2 x3
      exact ⟨gl, x2, dcd x3, dcd x4, x1⟩
    | some q =>
      obtain ⟨f, key⟩ := q
      have e : some f = k := e
      subst e
      have xf := cM.x (x := .exi p1 f) (ar (ar (ar (al (List.mem_flatMap.mpr ⟨_, hmem, List.mem_cons_self ..⟩)))))
      obtain ⟨x1, y⟩ := and2 (show (oexB K (He.ga K p1) && _) = true from xf)
      obtain ⟨x2, y⟩ := and2 y
      obtain ⟨x3, y⟩ := and2 y
      obtain ⟨x4, y⟩ := and2 y
      obtain ⟨x5, y⟩ := and2 y
      obtain ⟨x6, y⟩ := and2 y
      obtain ⟨x7, x8⟩ := and2 y
      refine ⟨gl, x5, dcd x3, dcd x4, ⟨oexB_ok x1, He.eqO_ok x2, dcd x3, dcd x4, x5⟩, He.eqO_ok x6, ?_⟩
      have oe := List.all_eq_true.mp S4 _ hmem
      unfold PgD.okE at oe
      dsimp only at oe
      split at oe
      · rename_i x hx
        obtain ⟨o1, o2⟩ := and2 oe
        split at o2
        · rename_i a q1 f' q2 g q3 q4 a' g' hb hps hdf
          obtain ⟨z1, z⟩ := and2 o2
          obtain ⟨z2, z⟩ := and2 z
          obtain ⟨z3, z⟩ := and2 z
          obtain ⟨z4, z⟩ := and2 z
          obtain ⟨z5, z⟩ := and2 z
          obtain ⟨z6, z⟩ := and2 z
          obtain ⟨z7, z8⟩ := and2 z
          cases dcd z1
          cases dcd z2
          cases dcd z3
          obtain ⟨hm, hkey⟩ := find_mem hx
          obtain ⟨s1, _⟩ := and2 (show (C8.scC x.F.N x.F.ps x.scope && _) = true from List.all_eq_true.mp S1 x hm)
          obtain ⟨⟨fd, FD⟩, kp⟩ := def_of c (List.mem_map.mpr ⟨x, hm, rfl⟩ : x.d ∈ D.fns)
          have ead : He.fAd K x.at_ = He.ma K (He.ga K p1) "__init__" := by
            rw [dcd o1]
            rfl
          have FD0 : FunD K x.name x.qual x.params x.body x.scope [] [] (He.fAd K x.at_) fd := by
            have := dvs_of (K := K) (x := x) (by rw [hdf]; rfl)
            rw [hdf] at this
            rw [← this]
            exact FD
          have bb := B x hm K _ fd (by rw [hdf]; exact FD0) x.F.ps.length (Nat.le_refl _) (Nat.le_add_right _ _)
          obtain ⟨ds, d1, d2⟩ := bb
          rw [hdf] at d1
          have d1 : Vals ([] : List V) ds := by simpa using d1
          cases d1
          rw [hps] at d2
          have fs := C8.fnScope_by s1
          rw [dcd z4, hps] at fs
          rw [hb] at FD0
          rw [ead] at FD0
          exact ⟨He.ma K (He.ga K p1) "__init__", fd, x.name, x.qual, x.params, x.scope, a, g, q1, q2, q3, q4, He.eqO_ok x7, dcd x8, d2, FD0, fs, notT z5, notT z6, notT z7, notT z8⟩
        · cases o2
      · cases oe
  · intro c k b hs
    obtain ⟨f1, _⟩ := subF hs
    obtain ⟨x1, y⟩ := and2 (show (decide (PySem.W.exmOne K (.ref (He.ga K c)) (kVa K k) = some b) && _) = true from f1)
    obtain ⟨x2, y⟩ := and2 y
    obtain ⟨x3, y⟩ := and2 y
    obtain ⟨x4, x5⟩ := and2 y
    exact ⟨dcd x1, dcd x2, excTB_ok x3, dcd x4, dcd x5⟩
  · intro k hk
    have hk := of_decide_eq_true (show decide (k ∈ D.kls) = true from hk)
    have g := inK (List.mem_map.mpr ⟨k, hk, rfl⟩)
    split
    · rename_i e
      rw [if_pos e] at g
      exact He.free_ok X G g
    · rename_i e
      rw [if_neg e] at g
      exact He.glo_ok X G g
  · intro c f hf
    have hf := of_decide_eq_true (show decide ((c, f) ∈ D.xflds) = true from hf)
    have g := cM.x (x := .xf c f) (ar (ar (ar (ar (ar (List.mem_map.mpr ⟨(c, f), hf, rfl⟩))))))
    obtain ⟨x1, x2⟩ := and2 (show (excTB K (He.ga K c) && _) = true from g)
    exact ⟨excTB_ok x1, He.eqO_ok x2⟩
  · intro c k b hs
    obtain ⟨_, f2⟩ := subF hs
    have f2 := of_decide_eq_true (show decide ((D.bads.any fun n => decide (He.ga K n = He.ga K c)) = decide (c ∈ D.bads)) = true from f2)
    show (D.bads.any fun n => decide (Value.ref (He.ga K c) = .ref (He.ga K n))) = decide (c ∈ D.bads)
    rw [← f2]
    congr 1
    funext n
    by_cases h : He.ga K n = He.ga K c
    · rw [decide_eq_true h, decide_eq_true (by rw [h])]
    · rw [decide_eq_false h, decide_eq_false fun z => h (by injection z with z; exact z.symm)]
  · intro c k _ hb
    have hb := of_decide_eq_true (show decide (c ∈ D.bads) = true from hb)
    exact List.any_eq_true.mpr ⟨c, hb, decide_eq_true rfl⟩
  · exact He.free_ok X G (inFa (ar (ar (ar (ar (ar (ar (ar (ar (ar (List.mem_cons_self ..)))))))))))
  · exact He.free_ok X G (inFa (ar (al (List.mem_cons_self ..))))
  · exact He.free_ok X G (inFa (ar (al (List.mem_cons_of_mem _ (List.mem_cons_self ..)))))
  · exact He.free_ok X G (inFa (ar (al (List.mem_cons_of_mem _ (List.mem_cons_of_mem _ (List.mem_cons_self ..))))))
  · intro t ht
    have ht := of_decide_eq_true (show decide (t ∈ D.tys) = true from ht)
    exact He.free_ok X G (inFa (ar (ar (al (List.mem_map.mpr ⟨t, ht, rfl⟩)))))
/-- an exception that left a call, of whatever class -/
def OutA (P : Program) (w : World) : CXT := fun outer H s E u s' => ∃ bad, Out bad P w outer H s E u s'
theorem fnOk_imp {P : Program} {w : World} {K : PySem.W.Frag} {mg : Str → Option Value} {base : Heap} {CX CX' : CXT} {k : Nat} {f : Addr} {fd : FuncData} {ps : List Str} {sp : Sp} (h : ∀ outer H s E u s', CX outer H s E u s' → CX' outer H s E u s') (F : FnOk P w K mg base CX k f fd ps sp) : FnOk P w K mg base CX' k f fd ps sp :=
  ⟨F.len, fun A outer s H args us vs Q E hr e0 hb r hsp => codeAny_mono (F.run A outer s H args us vs Q E hr e0 hb r hsp) fun r s2 hq => by
    cases r with
    | error e => exact h _ _ _ _ _ _ hq
    | ok fl => cases fl <;> exact hq⟩
/-- what the law's def promises -/
theorem law_at {l : PySem.W.OpenLaw} {w : World} {n d : Nat} {p : Str} {x : Dx} {fa : Addr} (S : D.okB = true) (B : ∀ x ∈ D.defs, BindsOk x) (X : K.In h) (G : h.Ns mainGlobals mg) (c : SaysM D.xfs D.fas D.fns K) (hx : D.find "law" = some x) (ht : x.F.top = true) (hps : x.F.ps = [p]) (hd : x.F.dfl = [])
    (hb : ∀ (kV doc pm : Value) (an : Option Addr) (cdv ct : Value) (us : List Value), us.length = x.F.ps.length → bindArgs (PySem.W.fnOf x.name x.qual x.params x.body x.scope .none kV doc pm an cdv ct) ⟨us, []⟩ = pure (x.F.ps.zip us)) (hm : mg "law" = some (.ref fa))
    (hl : ∀ ns : List Int, ns.length ≤ n → (∀ z ∈ ns, Builtin.Int.intBits z ≤ 1048576) → ∃ st', callN D.pg (d + 1) false "law" [.ref 0] [.fro (ns.map V.int)] = .val [.bl true] st') : LamX.LawAtS l w K (OutA l.prog w) (2 * (d + 1) + 1) n p mg fa h := by
  have St := stTab S B X G c
  obtain ⟨hmem, hkey⟩ := find_mem hx
  obtain ⟨⟨fd, FD⟩, kp⟩ := def_of c.d (List.mem_map.mpr ⟨x, hmem, rfl⟩ : x.d ∈ D.fns)
  have hf : D.pg.fn "law" = some x.F := by
    show (D.find "law").map (·.F) = some x.F
    rw [hx]
    rfl
  have ea : (D.cz K).ad "law" = He.fAd K x.at_ := by
    show adOf D K "law" = _
    unfold adOf
    rw [hx]
  have ef : fa = He.fAd K x.at_ := by
    have := (St.fn "law" x.F hf).2 ht
    rw [hm, ea] at this
    cases this
    rfl
  subst ef
  obtain ⟨S1, S2⟩ := and2 (show (D.defs.all (Dx.okB D) && ((D.meths.all D.okM && D.cms.all D.okM) && D.excs.all D.okE)) = true from S)
  obtain ⟨s1, s2⟩ := and2 (show (C8.scC x.F.N x.F.ps x.scope && _) = true from List.all_eq_true.mp S1 x hmem)
  obtain ⟨s2, s3⟩ := and2 s2
  have FD0 : FunD K x.name x.qual x.params x.body x.scope [] [] (He.fAd K x.at_) fd := by
    have := dvs_of (K := K) (and2 s3).1
    rw [hd] at this
    rw [← this]
    exact FD
  refine ⟨fd, [], spI (D.cz K) (callN D.pg (d + 1) false) "law" 1, (fun _ hp => nomatch hp), (fun _ hp => nomatch hp), (fun _ hp => nomatch hp), ?_, ?_, ?_⟩
  · intro s u
    have := FunD.bindsA FD0 (ps := x.F.ps) hb s [u] (by rw [hps]; rfl)
    rw [hps] at this
    exact this
  · intro H a ns hlen hbits _ hS
    obtain ⟨st', e⟩ := hl ns hlen hbits
    rcases hS with hS | ⟨o, its, m, lk, hc, _⟩
    · refine ⟨[a], [.fro (ns.map V.int)], [.ref 0], rfl, ⟨rfl, ?_, ?_, ?_⟩, .cons ⟨a, rfl, rfl⟩ .nil, ?_⟩
      · intro i j o u b hi hj _ _ _ _
        cases i with
        | succ i => cases hi
        | zero =>
          cases j with
          | succ j => cases hj
          | zero => rfl
      · intro i o b ho hb
        cases i with
        | zero =>
          have e1 : IO.fro (ns.map V.int) = o := Option.some.inj ho
          have e2 : a = b := Option.some.inj hb
          subst e1 e2
          refine ⟨ns.map V.int, ?_, hS⟩
          clear hlen hbits e hS ho
          induction ns with
          | nil => exact .nil
          | cons z zs ih => exact .cons rfl ih
        | succ i => cases ho
      · intro i c fs b hi hb
        cases i with
        | succ i => cases hi
        | zero => cases hi
      · rw [e]
        exact fun as' w' H' _ _ r => r
    · exact (noList_ok c.nl lk hc).elim
  · intro base Kb Gb _
    have T := tabs (P := l.prog) (w := w) (base := base) St d
    have key := fnU_succ (P := l.prog) (w := w) (base := base) T hf FD0 (C8.fnScope_by s1) s2 false fun _ _ _ _ => False
    rw [hps] at key
    exact fnOk_imp (fun _ _ _ _ _ _ z => ⟨_, z⟩) (key.ok fun _ _ _ z => z.elim fun _ z => z)
end
end Mi
set_option maxHeartbeats 400000
/-! law_k03_whole_row_or_ring: the table (printed by gen.py). -/
namespace Mk03
open PySem PySem.Spec PyProof.Rows L2 Mi
def top (i : Nat) : Stmt := PySem.Challenge.pw_elderline_k03_whole_row_or_ring.main.body.getD i (.Pass ⟨0, 0, 0, 0⟩)
def clsAt : Stmt → Nat → Stmt
  | .ClassDef _ _ _ body _ _ _ _ _ _ _, j => body.getD j (.Pass ⟨0, 0, 0, 0⟩)
  | _, _ => .Pass ⟨0, 0, 0, 0⟩

def b_law : T := (.seq (.asgN 1 (.bin .Mod (.call "_law_cell_at" (.cons (.var 0) (.cons (.cst (.int 0)) .nil))) (.cst (.int 10))))
  (.seq (.ifs (.cmp .Eq (.bin .Mod (.bin .FloorDiv (.call "_law_cell_at" (.cons (.var 0) (.cons (.cst (.int 0)) .nil))) (.cst (.int 10))) (.cst (.int 4))) (.cst (.int 1)))
  (.seq (.asgN 1 (.bin .Mod (.bin .FloorDiv (.call "_law_cell_at" (.cons (.var 0) (.cons (.cst (.int 0)) .nil))) (.cst (.int 40))) (.cst (.int 61))))
  .don)
  .don)
  (.seq (.asgN 2 (.lc [3] (.n 3) .rng1 (.cons (.var 1) .nil) .nil (.call "_law_name_by" (.cons (.var 3) (.cons (.call "_law_cell_at" (.cons (.var 0) (.cons (.cst (.int 1)) .nil))) .nil)))))
  (.seq (.asgN 4 (.lc [5] (.n 5) .seq (.slc (.var 0) (.som (.cst (.int 3))) (.som (.cst (.int 10)))) .nil (.call "_law_row_by" (.cons (.var 2) (.cons (.var 5) .nil)))))
  (.seq (.asgN 6 (.lc [3] (.n 3) .rng1 (.cons (.bif .len (.cons (.var 4) .nil)) .nil) .nil (.call "_law_name_by" (.cons (.var 3) (.cons (.call "_law_cell_at" (.cons (.var 0) (.cons (.cst (.int 2)) .nil))) .nil)))))
  (.seq (.asgN 7 (.call "_law_asked" (.cons (.var 4) (.cons (.var 6) .nil))))
  (.seq (.ret (.and (.cmp .NotEq (.var 7) (.cst (.str "wrong"))) (.cmp .Eq (.call "_law_asked" (.cons (.var 4) (.cons (.var 6) .nil))) (.var 7))))
  .don)))))))
def f_law : Fn := ⟨["_law_script"], ["_law_script", "_law_many", "_law_names", "_law_k", "_law_rows", "_law_cell", "_law_labels", "_law_kind"], [], b_law, true⟩
def d_law : Dx := ⟨"law", ("law", none), "law", "law", defArgs (top 19), defBody (top 19), defScope (top 19), f_law⟩
def b__law_asked : T := (.seq (.asgN 2 (.lc [3] (.n 3) .seq (.var 0) .nil (.bif .list (.cons (.var 3) .nil))))
  (.seq (.asgN 4 (.bif .list (.cons (.var 1) .nil)))
  (.seq (.asgN 5 (.cst .non))
  (.seq (.asgN 6 (.cst .non))
  (.seq (.tri (.seq (.asgN 6 (.call "merged" (.cons (.var 2) (.cons (.var 4) .nil))))
  .don)
  "AtOdds" (some 7) (.seq (.ifs (.or (.not (.isc (.var 7) "BookError")) (.not (.isc (.var 7) "ValueError")))
  (.seq (.ret (.cst (.str "wrong")))
  .don)
  .don)
  (.seq (.asgN 5 (.fldX (.var 7) "ring"))
  .don))
  none .don
  .don)
  (.seq (.ifs (.or (.cmp .NotEq (.var 2) (.var 0)) (.cmp .NotEq (.var 4) (.var 1)))
  (.seq (.ret (.cst (.str "wrong")))
  .don)
  .don)
  (.seq (.ifs (.cmp .Is (.var 5) (.cst .non))
  (.seq (.ret (.ife (.call "_law_row_right" (.cons (.var 0) (.cons (.var 6) .nil))) (.cst (.str "row")) (.cst (.str "wrong"))))
  .don)
  .don)
  (.seq (.ret (.ife (.call "_law_ring_right" (.cons (.var 0) (.cons (.var 1) (.cons (.var 5) .nil)))) (.cst (.str "ring")) (.cst (.str "wrong"))))
  .don))))))))
def f__law_asked : Fn := ⟨["_law_rows", "_law_labels"], ["_law_rows", "_law_labels", "_law_handed", "_law_row", "_law_named", "_law_ring", "_law_found", "error"], [], b__law_asked, true⟩
def d__law_asked : Dx := ⟨"_law_asked", ("_law_asked", none), "_law_asked", "_law_asked", defArgs (top 18), defBody (top 18), defScope (top 18), f__law_asked⟩
def b__law_cell_at : T := (.seq (.ifs (.cmp .Lt (.var 1) (.bif .len (.cons (.var 0) .nil)))
  (.seq (.ret (.idx (.var 0) (.var 1)))
  .don)
  .don)
  (.seq (.ret (.cst (.int 0)))
  .don))
def f__law_cell_at : Fn := ⟨["_law_script", "_law_k"], ["_law_script", "_law_k"], [], b__law_cell_at, true⟩
def d__law_cell_at : Dx := ⟨"_law_cell_at", ("_law_cell_at", none), "_law_cell_at", "_law_cell_at", defArgs (top 11), defBody (top 11), defScope (top 11), f__law_cell_at⟩
def b__law_name_by : T := (.seq (.asgN 2 (.cst (.str "abcdefghijklmnopqrstuvwxyz")))
  (.seq (.asgN 3 (.slc (.bin .Add (.var 2) (.var 2)) (.som (.bin .Mod (.var 1) (.cst (.int 26)))) (.som (.bin .Add (.bin .Mod (.var 1) (.cst (.int 26))) (.bin .Mod (.bin .FloorDiv (.var 1) (.cst (.int 26))) (.cst (.int 19)))))))
  (.seq (.asgN 4 (.bin .Mod (.bin .FloorDiv (.var 1) (.cst (.int 494))) (.bin .Add (.bif .len (.cons (.var 3) .nil)) (.cst (.int 1)))))
  (.seq (.ret (.bin .Add (.bin .Add (.bin .Add (.slc (.var 3) .nil (.som (.var 4))) (.idx (.var 2) (.bin .Mod (.bin .FloorDiv (.var 0) (.cst (.int 26))) (.cst (.int 26))))) (.idx (.var 2) (.bin .Mod (.var 0) (.cst (.int 26))))) (.slc (.var 3) (.som (.var 4)) .nil)))
  .don))))
def f__law_name_by : Fn := ⟨["_law_k", "_law_cell"], ["_law_k", "_law_cell", "_law_letters", "_law_fill", "_law_place"], [], b__law_name_by, true⟩
def d__law_name_by : Dx := ⟨"_law_name_by", ("_law_name_by", none), "_law_name_by", "_law_name_by", defArgs (top 12), defBody (top 12), defScope (top 12), f__law_name_by⟩
def b__law_row_by : T := (.seq (.asgN 2 (.bin .Mod (.bin .Mult (.var 1) (.cst (.int 48271))) (.cst (.int 2147483647))))
  (.seq (.asgN 3 (.lc [4] (.n 4) .rng1 (.cons (.bif .len (.cons (.var 0) .nil)) .nil) (.som (.cmp .NotEq (.bin .Mod (.bin .FloorDiv (.var 2) (.bin .Add (.var 4) (.cst (.int 1)))) (.cst (.int 3))) (.cst (.int 1)))) (.idx (.var 0) (.var 4))))
  (.seq (.ifs (.cmp .Lt (.bif .len (.cons (.var 3) .nil)) (.cst (.int 2)))
  (.seq (.ret (.var 3))
  .don)
  .don)
  (.seq (.asgN 5 (.bin .Mod (.bin .FloorDiv (.var 2) (.cst (.int 7))) (.bin .Sub (.bif .len (.cons (.var 3) .nil)) (.cst (.int 1)))))
  (.seq (.ifs (.cmp .Eq (.bin .Mod (.var 2) (.cst (.int 6))) (.cst (.int 0)))
  (.seq (.ret (.bin .Add (.bin .Add (.slc (.var 3) .nil (.som (.var 5))) (.lst (.cons (.idx (.var 3) (.bin .Add (.var 5) (.cst (.int 1)))) (.cons (.idx (.var 3) (.var 5)) .nil)))) (.slc (.var 3) (.som (.bin .Add (.var 5) (.cst (.int 2)))) .nil)))
  .don)
  .don)
  (.seq (.ifs (.cmp .Eq (.bin .Mod (.var 2) (.cst (.int 6))) (.cst (.int 1)))
  (.seq (.ret (.bin .Add (.slc (.var 3) (.som (.bin .Add (.var 5) (.cst (.int 1)))) .nil) (.slc (.var 3) .nil (.som (.bin .Add (.var 5) (.cst (.int 1)))))))
  .don)
  .don)
  (.seq (.ifs (.cmp .Eq (.bin .Mod (.var 2) (.cst (.int 36))) (.cst (.int 2)))
  (.seq (.ret (.rsl (.var 3)))
  .don)
  .don)
  (.seq (.ret (.var 3))
  .don))))))))
def f__law_row_by : Fn := ⟨["_law_names", "_law_cell"], ["_law_names", "_law_cell", "_law_mixed", "_law_row", "_law_k", "_law_at"], [], b__law_row_by, true⟩
def d__law_row_by : Dx := ⟨"_law_row_by", ("_law_row_by", none), "_law_row_by", "_law_row_by", defArgs (top 13), defBody (top 13), defScope (top 13), f__law_row_by⟩
def b_AtOdds___init__ : T := (.seq (.asgF (.var 0) "ring" (.var 1))
  .don)
def f_AtOdds___init__ : Fn := ⟨["self", "ring"], ["self", "ring"], [], b_AtOdds___init__, false⟩
def d_AtOdds___init__ : Dx := ⟨"AtOdds.__init__", ("AtOdds", some "__init__"), "__init__", "AtOdds.__init__", defArgs (clsAt (top 2) 0), defBody (clsAt (top 2) 0), defScope (clsAt (top 2) 0), f_AtOdds___init__⟩
def b_merged : T := (.seq (.asgN 2 (.lc [3] (.n 3) .seq (.var 0) .nil (.bif .list (.cons (.var 3) .nil))))
  (.seq (.asgN 4 (.lst .nil))
  (.seq (.whl (.bif .any (.cons (.lc [3] (.n 3) .seq (.var 2) .nil (.cmp .Gt (.bif .len (.cons (.var 3) .nil)) (.cst (.int 0)))) .nil))
  (.seq (.asgN 5 (.call "next_name" (.cons (.var 2) .nil)))
  (.seq (.ifs (.cmp .Is (.var 5) (.cst .non))
  (.seq (.rai "AtOdds" (.call "ring_of" (.cons (.var 2) (.cons (.var 1) .nil))))
  .don)
  .don)
  (.seq (.drop (.bm .lAppend (.var 4) (.cons (.var 5) .nil)))
  (.seq (.asgN 2 (.call "without" (.cons (.var 2) (.cons (.var 5) .nil))))
  .don)))))
  (.seq (.ret (.var 4))
  .don))))
def f_merged : Fn := ⟨["rows", "labels"], ["rows", "labels", "left", "row", "done", "name"], [], b_merged, true⟩
def d_merged : Dx := ⟨"merged", ("merged", none), "merged", "merged", defArgs (top 9), defBody (top 9), defScope (top 9), f_merged⟩
def b__law_ring_right : T := (.seq (.ifs (.or (.not (.isi (.var 2) .list)) (.cmp .Lt (.bif .len (.cons (.var 2) .nil)) (.cst (.int 2))))
  (.seq (.ret (.cst (.bl false)))
  .don)
  .don)
  (.seq (.for (.n 3) .rng1 (.cons (.bif .len (.cons (.var 2) .nil)) .nil)
  (.seq (.asgN 4 (.idx (.var 2) (.var 3)))
  (.seq (.ifs (.or (.not (.isi (.var 4) .tuple)) (.or (.cmp .NotEq (.bif .len (.cons (.var 4) .nil)) (.cst (.int 3))) (.not (.call "_law_texts" (.cons (.bif .list (.cons (.var 4) .nil)) .nil)))))
  (.seq (.ret (.cst (.bl false)))
  .don)
  .don)
  (.seq (.ifs (.or (.cmp .NotIn (.idx (.var 4) (.cst (.int 2))) (.var 1)) (.cmp .NotEq (.idx (.var 4) (.cst (.int 1))) (.idx (.idx (.var 2) (.bin .Mod (.bin .Add (.var 3) (.cst (.int 1))) (.bif .len (.cons (.var 2) .nil)))) (.cst (.int 0)))))
  (.seq (.ret (.cst (.bl false)))
  .don)
  .don)
  (.seq (.asgN 5 (.idx (.var 0) (.bm .lIndex (.var 1) (.cons (.idx (.var 4) (.cst (.int 2))) .nil))))
  (.seq (.ifs (.or (.cmp .NotIn (.idx (.var 4) (.cst (.int 0))) (.var 5)) (.cmp .NotIn (.idx (.var 4) (.cst (.int 1))) (.slc (.var 5) (.som (.bin .Add (.bm .lIndex (.var 5) (.cons (.idx (.var 4) (.cst (.int 0))) .nil)) (.cst (.int 1)))) .nil)))
  (.seq (.ret (.cst (.bl false)))
  .don)
  .don)
  .don))))))
  (.seq (.ret (.cmp .Eq (.lset (.lc [4] (.n 4) .seq (.var 2) .nil (.idx (.var 4) (.cst (.int 0))))) (.bif .len (.cons (.var 2) .nil))))
  .don)))
def f__law_ring_right : Fn := ⟨["_law_rows", "_law_labels", "_law_ring"], ["_law_rows", "_law_labels", "_law_ring", "_law_k", "_law_leaning", "_law_row"], [], b__law_ring_right, true⟩
def d__law_ring_right : Dx := ⟨"_law_ring_right", ("_law_ring_right", none), "_law_ring_right", "_law_ring_right", defArgs (top 17), defBody (top 17), defScope (top 17), f__law_ring_right⟩
def b__law_row_right : T := (.seq (.ifs (.not (.call "_law_texts" (.cons (.var 1) .nil)))
  (.seq (.ret (.cst (.bl false)))
  .don)
  .don)
  (.seq (.asgN 2 (.lc [3] (.n 3) .seq (.var 0) .nil (.bif .list (.cons (.var 3) .nil))))
  (.seq (.for (.n 4) .seq (.var 1)
  (.seq (.asgN 5 (.lc [3] (.n 3) .seq (.var 2) (.som (.and (.var 3) (.not (.call "_law_behind" (.cons (.var 2) (.cons (.idx (.var 3) (.cst (.int 0))) .nil)))))) (.idx (.var 3) (.cst (.int 0)))))
  (.seq (.ifs (.or (.not (.var 5)) (.cmp .NotEq (.idx (.var 5) (.cst (.int 0))) (.var 4)))
  (.seq (.ret (.cst (.bl false)))
  .don)
  .don)
  (.seq (.asgN 2 (.lc [3] (.n 3) .seq (.var 2) .nil (.lc [6] (.n 6) .seq (.var 3) (.som (.cmp .NotEq (.var 6) (.var 4))) (.var 6))))
  .don))))
  (.seq (.ret (.not (.bif .any (.cons (.lc [3] (.n 3) .seq (.var 2) .nil (.cmp .Gt (.bif .len (.cons (.var 3) .nil)) (.cst (.int 0)))) .nil))))
  .don))))
def f__law_row_right : Fn := ⟨["_law_rows", "_law_found"], ["_law_rows", "_law_found", "_law_left", "_law_row", "_law_name", "_law_heads", "_law_one"], [], b__law_row_right, true⟩
def d__law_row_right : Dx := ⟨"_law_row_right", ("_law_row_right", none), "_law_row_right", "_law_row_right", defArgs (top 16), defBody (top 16), defScope (top 16), f__law_row_right⟩
def b_next_name : T := (.seq (.for (.n 1) .seq (.var 0)
  (.seq (.ifs (.and (.var 1) (.not (.call "stands_behind" (.cons (.var 0) (.cons (.idx (.var 1) (.cst (.int 0))) .nil)))))
  (.seq (.ret (.idx (.var 1) (.cst (.int 0))))
  .don)
  .don)
  .don))
  (.seq (.ret (.cst .non))
  .don))
def f_next_name : Fn := ⟨["rows"], ["rows", "row"], [], b_next_name, true⟩
def d_next_name : Dx := ⟨"next_name", ("next_name", none), "next_name", "next_name", defArgs (top 5), defBody (top 5), defScope (top 5), f_next_name⟩
def b_without : T := (.seq (.asgN 2 (.lst .nil))
  (.seq (.for (.n 3) .seq (.var 0)
  (.seq (.ifs (.and (.var 3) (.cmp .Eq (.idx (.var 3) (.cst (.int 0))) (.var 1)))
  (.seq (.drop (.bm .lAppend (.var 2) (.cons (.slc (.var 3) (.som (.cst (.int 1))) .nil) .nil)))
  .don)
  (.seq (.drop (.bm .lAppend (.var 2) (.cons (.var 3) .nil)))
  .don))
  .don))
  (.seq (.ret (.var 2))
  .don)))
def f_without : Fn := ⟨["rows", "name"], ["rows", "name", "left", "row"], [], b_without, true⟩
def d_without : Dx := ⟨"without", ("without", none), "without", "without", defArgs (top 6), defBody (top 6), defScope (top 6), f_without⟩
def b_ring_of : T := (.seq (.asgN 2 (.idx (.lc [3] (.n 3) .seq (.var 0) (.som (.var 3)) (.idx (.var 3) (.cst (.int 0)))) (.cst (.int 0))))
  (.seq (.asgN 4 (.lst .nil))
  (.seq (.asgN 5 (.lst .nil))
  (.seq (.whl (.cmp .NotIn (.var 2) (.var 4))
  (.seq (.drop (.bm .lAppend (.var 4) (.cons (.var 2) .nil)))
  (.seq (.drop (.bm .lAppend (.var 5) (.cons (.call "leaning_to" (.cons (.var 0) (.cons (.var 1) (.cons (.var 2) .nil)))) .nil)))
  (.seq (.asgN 2 (.idx (.idx (.var 5) (.neg (.cst (.int 1)))) (.cst (.int 0))))
  .don))))
  (.seq (.ret (.lrev (.slc (.var 5) (.som (.bm .lIndex (.var 4) (.cons (.var 2) .nil))) .nil)))
  .don)))))
def f_ring_of : Fn := ⟨["rows", "labels"], ["rows", "labels", "name", "row", "met", "walked"], [], b_ring_of, true⟩
def d_ring_of : Dx := ⟨"ring_of", ("ring_of", none), "ring_of", "ring_of", defArgs (top 8), defBody (top 8), defScope (top 8), f_ring_of⟩
def b__law_texts : T := (.seq (.ret (.and (.isi (.var 0) .list) (.bif .all (.cons (.lc [1] (.n 1) .seq (.var 0) .nil (.isi (.var 1) .str)) .nil))))
  .don)
def f__law_texts : Fn := ⟨["_law_found"], ["_law_found", "_law_one"], [], b__law_texts, true⟩
def d__law_texts : Dx := ⟨"_law_texts", ("_law_texts", none), "_law_texts", "_law_texts", defArgs (top 14), defBody (top 14), defScope (top 14), f__law_texts⟩
def b__law_behind : T := (.seq (.ret (.bif .any (.cons (.lc [2] (.n 2) .seq (.var 0) .nil (.cmp .In (.var 1) (.slc (.var 2) (.som (.cst (.int 1))) .nil))) .nil)))
  .don)
def f__law_behind : Fn := ⟨["_law_rows", "_law_name"], ["_law_rows", "_law_name", "_law_row"], [], b__law_behind, true⟩
def d__law_behind : Dx := ⟨"_law_behind", ("_law_behind", none), "_law_behind", "_law_behind", defArgs (top 15), defBody (top 15), defScope (top 15), f__law_behind⟩
def b_stands_behind : T := (.seq (.for (.n 2) .seq (.var 0)
  (.seq (.ifs (.cmp .In (.var 1) (.slc (.var 2) (.som (.cst (.int 1))) .nil))
  (.seq (.ret (.cst (.bl true)))
  .don)
  .don)
  .don))
  (.seq (.ret (.cst (.bl false)))
  .don))
def f_stands_behind : Fn := ⟨["rows", "name"], ["rows", "name", "row"], [], b_stands_behind, true⟩
def d_stands_behind : Dx := ⟨"stands_behind", ("stands_behind", none), "stands_behind", "stands_behind", defArgs (top 4), defBody (top 4), defScope (top 4), f_stands_behind⟩
def b_leaning_to : T := (.seq (.for (.n 3) .rng1 (.cons (.bif .len (.cons (.var 0) .nil)) .nil)
  (.seq (.ifs (.cmp .In (.var 2) (.slc (.idx (.var 0) (.var 3)) (.som (.cst (.int 1))) .nil))
  (.seq (.ret (.tup (.cons (.idx (.idx (.var 0) (.var 3)) (.cst (.int 0))) (.cons (.var 2) (.cons (.idx (.var 1) (.var 3)) .nil)))))
  .don)
  .don)
  .don))
  (.seq (.ret (.cst .non))
  .don))
def f_leaning_to : Fn := ⟨["rows", "labels", "name"], ["rows", "labels", "name", "at"], [], b_leaning_to, true⟩
def d_leaning_to : Dx := ⟨"leaning_to", ("leaning_to", none), "leaning_to", "leaning_to", defArgs (top 7), defBody (top 7), defScope (top 7), f_leaning_to⟩
def D : PgD where
  defs := [d_law, d__law_asked, d__law_cell_at, d__law_name_by, d__law_row_by, d_AtOdds___init__, d_merged, d__law_ring_right, d__law_row_right, d_next_name, d_without, d_ring_of, d__law_texts, d__law_behind, d_stands_behind, d_leaning_to]
  meths := []
  mades := []
  flds := []
  tys := ["list", "str", "tuple"]
  cms := []
  gInts := []
  gStrs := []
  excs := [("AtOdds", some ("ring", "AtOdds.__init__"))]
  kls := ["AtOdds", "BookError", "ValueError"]
  subs := [("AtOdds", "AtOdds", true), ("AtOdds", "BookError", true), ("AtOdds", "ValueError", true)]
  xflds := [("AtOdds", "ring")]
  bads := []
theorem bnd_law : BindsOk d_law := bindsOk0 rfl fun _ _ _ _ _ _ us hl => match us, hl with | [_], _ => rfl
theorem bnd__law_asked : BindsOk d__law_asked := bindsOk0 rfl fun _ _ _ _ _ _ us hl => match us, hl with | [_, _], _ => rfl
theorem bnd__law_cell_at : BindsOk d__law_cell_at := bindsOk0 rfl fun _ _ _ _ _ _ us hl => match us, hl with | [_, _], _ => rfl
theorem bnd__law_name_by : BindsOk d__law_name_by := bindsOk0 rfl fun _ _ _ _ _ _ us hl => match us, hl with | [_, _], _ => rfl
theorem bnd__law_row_by : BindsOk d__law_row_by := bindsOk0 rfl fun _ _ _ _ _ _ us hl => match us, hl with | [_, _], _ => rfl
theorem bnd_AtOdds___init__ : BindsOk d_AtOdds___init__ := bindsOk0 rfl fun _ _ _ _ _ _ us hl => match us, hl with | [_, _], _ => rfl
theorem bnd_merged : BindsOk d_merged := bindsOk0 rfl fun _ _ _ _ _ _ us hl => match us, hl with | [_, _], _ => rfl
theorem bnd__law_ring_right : BindsOk d__law_ring_right := bindsOk0 rfl fun _ _ _ _ _ _ us hl => match us, hl with | [_, _, _], _ => rfl
theorem bnd__law_row_right : BindsOk d__law_row_right := bindsOk0 rfl fun _ _ _ _ _ _ us hl => match us, hl with | [_, _], _ => rfl
theorem bnd_next_name : BindsOk d_next_name := bindsOk0 rfl fun _ _ _ _ _ _ us hl => match us, hl with | [_], _ => rfl
theorem bnd_without : BindsOk d_without := bindsOk0 rfl fun _ _ _ _ _ _ us hl => match us, hl with | [_, _], _ => rfl
theorem bnd_ring_of : BindsOk d_ring_of := bindsOk0 rfl fun _ _ _ _ _ _ us hl => match us, hl with | [_, _], _ => rfl
theorem bnd__law_texts : BindsOk d__law_texts := bindsOk0 rfl fun _ _ _ _ _ _ us hl => match us, hl with | [_], _ => rfl
theorem bnd__law_behind : BindsOk d__law_behind := bindsOk0 rfl fun _ _ _ _ _ _ us hl => match us, hl with | [_, _], _ => rfl
theorem bnd_stands_behind : BindsOk d_stands_behind := bindsOk0 rfl fun _ _ _ _ _ _ us hl => match us, hl with | [_, _], _ => rfl
theorem bnd_leaning_to : BindsOk d_leaning_to := bindsOk0 rfl fun _ _ _ _ _ _ us hl => match us, hl with | [_, _, _], _ => rfl
theorem bnds : ∀ x ∈ D.defs, BindsOk x := (List.forall_mem_cons.mpr ⟨bnd_law, (List.forall_mem_cons.mpr ⟨bnd__law_asked, (List.forall_mem_cons.mpr ⟨bnd__law_cell_at, (List.forall_mem_cons.mpr ⟨bnd__law_name_by, (List.forall_mem_cons.mpr ⟨bnd__law_row_by, (List.forall_mem_cons.mpr ⟨bnd_AtOdds___init__, (List.forall_mem_cons.mpr ⟨bnd_merged, (List.forall_mem_cons.mpr ⟨bnd__law_ring_right, (List.forall_mem_cons.mpr ⟨bnd__law_row_right, (List.forall_mem_cons.mpr ⟨bnd_next_name, (List.forall_mem_cons.mpr ⟨bnd_without, (List.forall_mem_cons.mpr ⟨bnd_ring_of, (List.forall_mem_cons.mpr ⟨bnd__law_texts, (List.forall_mem_cons.mpr ⟨bnd__law_behind, (List.forall_mem_cons.mpr ⟨bnd_stands_behind, (List.forall_mem_cons.mpr ⟨bnd_leaning_to, (fun _ h => nomatch h)⟩)⟩)⟩)⟩)⟩)⟩)⟩)⟩)⟩)⟩)⟩)⟩)⟩)⟩)⟩)⟩)
theorem ck_law : Dx.okB D d_law = true := by decide +kernel
theorem ck__law_asked : Dx.okB D d__law_asked = true := by decide +kernel
theorem ck__law_cell_at : Dx.okB D d__law_cell_at = true := by decide +kernel
theorem ck__law_name_by : Dx.okB D d__law_name_by = true := by decide +kernel
theorem ck__law_row_by : Dx.okB D d__law_row_by = true := by decide +kernel
theorem ck_AtOdds___init__ : Dx.okB D d_AtOdds___init__ = true := by decide +kernel
theorem ck_merged : Dx.okB D d_merged = true := by decide +kernel
theorem ck__law_ring_right : Dx.okB D d__law_ring_right = true := by decide +kernel
theorem ck__law_row_right : Dx.okB D d__law_row_right = true := by decide +kernel
theorem ck_next_name : Dx.okB D d_next_name = true := by decide +kernel
theorem ck_without : Dx.okB D d_without = true := by decide +kernel
theorem ck_ring_of : Dx.okB D d_ring_of = true := by decide +kernel
theorem ck__law_texts : Dx.okB D d__law_texts = true := by decide +kernel
theorem ck__law_behind : Dx.okB D d__law_behind = true := by decide +kernel
theorem ck_stands_behind : Dx.okB D d_stands_behind = true := by decide +kernel
theorem ck_leaning_to : Dx.okB D d_leaning_to = true := by decide +kernel
-- LAWI 19 LOOSE ["BookError", "AtOdds", "stands_behind", "next_name", "without", "leaning_to", "ring_of", "merged", "_law_cell_at", "_law_name_by", "_law_row_by", "_law_texts", "_law_behind", "_law_row_right", "_law_ring_right", "_law_asked"] PARAM _law_script
end Mk03
set_option maxHeartbeats 0
/-! law_k03_whole_row_or_ring: the head. -/
namespace Mk03
open PySem PySem.Spec PyProof.Rows L2 Mi
abbrev RW : PySem.W.OpenRow := PySem.W.OpenLaw.row PySem.Challenge.rw_elderline_k03_whole_row_or_ring
abbrev hk : PySem.W.Hook := hookM 5 D.xfs D.fas D.fns
def ob (s : PySem.W.SharedT) : AlM := obsMG 5 D.xfs D.fas D.fns (HandSHeadRun.getT s)
theorem ob_eq (s : PySem.W.SharedT) : ob s = hk.obs s.abs := obsMG_eq (HandSHeadRun.getT_eq s)
theorem headrun (w : World) : HandSHeadRun.RunEq RW (PySem.W.view RW.prog [19]) hk ob 20000 ["BookError", "AtOdds", "stands_behind", "next_name", "without", "leaning_to", "ring_of", "merged", "_law_cell_at", "_law_name_by", "_law_row_by", "_law_texts", "_law_behind", "_law_row_right", "_law_ring_right", "_law_asked"] w := by
  intro os
  kernel_rfl
theorem okD : D.okB = true := by decide +kernel
end Mk03
section
open PySem PySem.W PySem.Calls PyProof.Rows
theorem Mk03.holds_of (hl : ∀ ns : List Int, ns.length ≤ 63 → (∀ z ∈ ns, Builtin.Int.intBits z ≤ 1048576) → ∃ st', Mi.callN Mk03.D.pg (30 + 1) false "law" [.ref 0] [.fro (ns.map L2.V.int)] = .val [.bl true] st') : PySem.Challenge.rw_elderline_k03_whole_row_or_ring.Holds := by
  w_on; o_law
  refine HandSHeadRun.head_any (r := OpenLaw.row PySem.Challenge.rw_elderline_k03_whole_row_or_ring) (q := view (OpenLaw.row PySem.Challenge.rw_elderline_k03_whole_row_or_ring).prog [19]) (H := Mk03.hk) (ob := Mk03.ob) (M := 20000) (loose := ["BookError", "AtOdds", "stands_behind", "next_name", "without", "leaning_to", "ring_of", "merged", "_law_cell_at", "_law_name_by", "_law_row_by", "_law_texts", "_law_behind", "_law_row_right", "_law_ring_right", "_law_asked"]) (d := HandSHeadRun.topDef (OpenLaw.row PySem.Challenge.rw_elderline_k03_whole_row_or_ring).prog 19) (kwd := []) Mk03.ob_eq
    (by kernel_rfl) (fun s => by kernel_rfl) Mk03.headrun (by kernel_rfl) (by kernel_rfl) (by kernel_rfl) (by rfl) (by first | assumption | decide +kernel) (by decide +kernel) ⟨rfl, rfl, rfl, rfl, rfl, by decide +kernel⟩ ?hw ?hc
  case hw => w_witness2
  case hc =>
    refine LamX.walk_ofTsE (l := PySem.Challenge.rw_elderline_k03_whole_row_or_ring) (n := 63) (k := 2 * (30 + 1) + 1) (x := "_law_script") (CX := Mi.OutA (PySem.Challenge.rw_elderline_k03_whole_row_or_ring).prog) rfl (by decide) (by kernel_rfl) ⟨rfl, by decide, by decide⟩ ?F (fun _ _ _ _ _ ⟨_, z⟩ => Mi.Out.never z)
    intro w mg fa h Y G hmg0
    obtain ⟨K, KX, c⟩ := Y
    have hmg : mg ("law" : PySem.Str) = some (.ref fa) := by
      have e : (HandSHeadRun.topDef (OpenLaw.row PySem.Challenge.rw_elderline_k03_whole_row_or_ring).prog 19).name = ("law" : PySem.Str) := by kernel_rfl
      rw [← e]
      exact hmg0
    exact ⟨K, KX, Mi.law_at (x := Mk03.d_law) Mk03.okD Mk03.bnds KX G c (by kernel_rfl) rfl rfl rfl (fun _ _ _ _ _ _ us hl => match us, hl with | [_], _ => rfl) hmg hl⟩
end
set_option maxHeartbeats 400000
/-! Mw: runs by what must follow; no program in sight. -/
namespace Mi
open PySem PySem.Spec PyProof.Rows L2
theorem moq {md : Bool} : (Mo.on md).q = true := rfl
theorem cfm_on {cf : Bool → Str → List V → Store → R} {md : Bool} : cfm cf (.on md) = cf md := by
  funext f xs st
  rfl
def wv (r : R) (Q : V → Store → Prop) : Prop := match r with
  | .val [v] st => Q v st
  | _ => False
def wl (r : R) (Q : List V → Store → Prop) : Prop := match r with
  | .val vs st => Q vs st
  | _ => False
def wz (r : R) (N : Ev → Store → Prop) (Rt : V → Store → Prop) : Prop := match r with
  | .nxt e st => N e st
  | .ret v st => Rt v st
  | _ => False
def tr (o : Option Bool) (A B : Prop) : Prop := match o with
  | none => False
  | some true => A
  | some false => B
section
variable {r : R} {Q Q' Rt Rt' : V → Store → Prop} {QL QL' : List V → Store → Prop} {N N' : Ev → Store → Prop} {st : Store} {env : Ev} {v : V} {A B : Prop}
theorem wv.imp (h : wv r Q) (g : ∀ v st, Q v st → Q' v st) : wv r Q' := by
  unfold wv at h ⊢
  split at h
  · exact g _ _ h
  · exact h.elim
theorem wl.imp (h : wl r QL) (g : ∀ v st, QL v st → QL' v st) : wl r QL' := by
  unfold wl at h ⊢
  split at h
  · exact g _ _ h
  · exact h.elim
theorem wz.imp (h : wz r N Rt) (g1 : ∀ e st, N e st → N' e st) (g2 : ∀ v st, Rt v st → Rt' v st) : wz r N' Rt' := by
  unfold wz at h ⊢
  split at h
  · exact g1 _ _ h
  · exact g2 _ _ h
  · exact h.elim
theorem wv_get (h : wv r Q) : ∃ v st, r = .val [v] st ∧ Q v st := by
  unfold wv at h
  split at h
  · exact ⟨_, _, rfl, h⟩
  · exact h.elim
theorem wv_b1 {k : V → Store → R} : wv (r.b1 k) Q = wv r fun v st => wv (k v st) Q := by
  cases r with
  | val vs st => match vs with
    | [] => rfl
    | [_] => rfl
    | _ :: _ :: _ => rfl
  | _ => rfl
theorem wv_bs {k : List V → Store → R} : wv (r.bs k) Q = wl r fun v st => wv (k v st) Q := by
  cases r <;> rfl
theorem wl_b1 {k : V → Store → R} : wl (r.b1 k) QL = wv r fun v st => wl (k v st) QL := by
  cases r with
  | val vs st => match vs with
    | [] => rfl
    | [_] => rfl
    | _ :: _ :: _ => rfl
  | _ => rfl
theorem wl_bs {k : List V → Store → R} : wl (r.bs k) QL = wl r fun v st => wl (k v st) QL := by
  cases r <;> rfl
theorem wz_b1 {k : V → Store → R} : wz (r.b1 k) N Rt = wv r fun v st => wz (k v st) N Rt := by
  cases r with
  | val vs st => match vs with
    | [] => rfl
    | [_] => rfl
    | _ :: _ :: _ => rfl
  | _ => rfl
theorem wz_bs {k : List V → Store → R} : wz (r.bs k) N Rt = wl r fun v st => wz (k v st) N Rt := by
  cases r <;> rfl
theorem wz_bn {k : Ev → Store → R} : wz (r.bn k) N Rt = wz r (fun e st => wz (k e st) N Rt) Rt := by
  cases r <;> rfl
theorem wv_exE : wv (exE r env) Q = wv r Q := by cases r <;> rfl
theorem wl_exE : wl (exE r env) QL = wl r QL := by cases r <;> rfl
theorem wv_one : wv (one v st) Q = Q v st := rfl
theorem wv_val : wv (.val [v] st) Q = Q v st := rfl
theorem wl_val {vs : List V} : wl (.val vs st) QL = QL vs st := rfl
theorem wv_new {o : IO} : wv (new o st) Q = Q (.ref st.length) (st ++ [o]) := rfl
theorem wv_ofB {b : Bool} : wv (ofB (some b) st) Q = Q (.bl b) st := rfl
theorem tr_bl {b : Bool} : tr (truth (.bl b) st) A B = ((b = true → A) ∧ (b = false → B)) := by
  cases b <;> simp [tr, truth]
theorem tr_some {b : Bool} : tr (some b) A B = ((b = true → A) ∧ (b = false → B)) := by
  cases b <;> simp [tr]
end
section
variable {Pg : Prog} {cf : Bool → Str → List V → Store → R} {md : Bool} {env : Ev} {st : Store} {Q Rt : V → Store → Prop} {QL : List V → Store → Prop} {N : Ev → Store → Prop} {a b c e i o as ifs lo hi : T} {n : Nat} {v : V} {x : Str} {op op2 : CmpOp} {bop : Operator}
theorem wv_tr {o : Option Bool} {r1 r2 : R} : wv (match o with
    | none => .stk
    | some true => r1
    | some false => r2) Q = tr o (wv r1 Q) (wv r2 Q) := by
  cases o with
  | none => rfl
  | some b => cases b <;> rfl
theorem wz_tr {o : Option Bool} {r1 r2 : R} : wz (match o with
    | none => .stk
    | some true => r1
    | some false => r2) N Rt = tr o (wz r1 N Rt) (wz r2 N Rt) := by
  cases o with
  | none => rfl
  | some b => cases b <;> rfl
theorem w_var : wv (run Pg cf (.var n) (.on md) env st) Q = ∃ v, env[n]? = some (some v) ∧ Q v st := by
  unfold run
  split
  · rename_i v h
    rw [wv_one, h]
    simp
  · rename_i h
    refine propext ⟨fun h => h.elim, fun ⟨v, e, _⟩ => (h v e).elim⟩
theorem w_cst : wv (run Pg cf (.cst v) (.on md) env st) Q = Q v st := propext Iff.rfl
theorem w_glo : wv (run Pg cf (.glo x) (.on md) env st) Q = ∃ v, Pg.glo x = some v ∧ Q v st := by
  unfold run
  cases h : Pg.glo x with
  | none => exact propext ⟨fun h => h.elim, fun ⟨_, e, _⟩ => nomatch e⟩
  | some v => simp [wv_one]
theorem w_bin : wv (run Pg cf (.bin bop a b) (.on md) env st) Q = wv (run Pg cf a (.on md) env st) fun x st1 => wv (run Pg cf b (.on md) env st1) fun y st2 => wv (binD bop x y st2) Q := by
  simp only [run, moq, cfm_on, if_true, wv_b1]
theorem w_neg : wv (run Pg cf (.neg a) (.on md) env st) Q = wv (run Pg cf a (.on md) env st) fun x st1 => ∃ i, x = .int i ∧ Q (.int (-i)) st1 := by
  simp only [run, moq, cfm_on, if_true, wv_b1]
  congr 1
  funext x st1
  cases x <;> simp [wv_one] <;> first | rfl | simp [wv]
theorem w_not : wv (run Pg cf (.not a) (.on md) env st) Q = wv (run Pg cf a (.on md) env st) fun x st1 => tr (truth x st1) (Q (.bl false) st1) (Q (.bl true) st1) := by
  simp only [run, moq, cfm_on, if_true, wv_b1]
  congr 1
  funext x st1
  cases truth x st1 with
  | none => rfl
  | some b => cases b <;> rfl
theorem w_and : wv (run Pg cf (.and a b) (.on md) env st) Q = wv (run Pg cf a (.on md) env st) fun x st1 => tr (truth x st1) (wv (run Pg cf b (.on md) env st1) Q) (Q x st1) := by
  simp only [run, moq, cfm_on, if_true, wv_b1]
  congr 1
  funext x st1
  cases truth x st1 with
  | none => rfl
  | some b => cases b <;> rfl
theorem w_or : wv (run Pg cf (.or a b) (.on md) env st) Q = wv (run Pg cf a (.on md) env st) fun x st1 => tr (truth x st1) (Q x st1) (wv (run Pg cf b (.on md) env st1) Q) := by
  simp only [run, moq, cfm_on, if_true, wv_b1]
  congr 1
  funext x st1
  cases truth x st1 with
  | none => rfl
  | some b => cases b <;> rfl
theorem w_cmp : wv (run Pg cf (.cmp op a b) (.on md) env st) Q = wv (run Pg cf a (.on md) env st) fun x st1 => wv (run Pg cf b (.on md) env st1) fun y st2 => wv (cmpD op x y st2) Q := by
  simp only [run, moq, cfm_on, if_true, wv_b1]
theorem w_ife : wv (run Pg cf (.ife c a b) (.on md) env st) Q = wv (run Pg cf c (.on md) env st) fun x st1 => tr (truth x st1) (wv (run Pg cf a (.on md) env st1) Q) (wv (run Pg cf b (.on md) env st1) Q) := by
  simp only [run, moq, cfm_on, if_true, wv_b1]
  congr 1
  funext x st1
  cases truth x st1 with
  | none => rfl
  | some b => cases b <;> rfl
theorem w_nil : wl (run Pg cf .nil (.on md) env st) QL = QL [] st := propext Iff.rfl
theorem w_cons : wl (run Pg cf (.cons a as) (.on md) env st) QL = wv (run Pg cf a (.on md) env st) fun x st1 => wl (run Pg cf as (.on md) env st1) fun xs st2 => QL (x :: xs) st2 := by
  simp only [run, moq, cfm_on, if_true, wl_b1, wl_bs]
  rfl
theorem w_som : wl (run Pg cf (.som a) (.on md) env st) QL = wv (run Pg cf a (.on md) env st) fun x st1 => QL [x] st1 := by
  simp only [run, moq, cfm_on, if_true, wl_b1]
  rfl
theorem w_if {p : Prop} [Decidable p] {r : R} : wv (if p then r else .stk) Q = (p ∧ wv r Q) := by
  by_cases h : p
  · simp [h]
  · simp [h]
    exact id
theorem wz_if {p : Prop} [Decidable p] {r : R} : wz (if p then r else .stk) N Rt = (p ∧ wz r N Rt) := by
  by_cases h : p
  · simp [h]
  · simp [h]
    exact id
theorem w_tup : wv (run Pg cf (.tup as) (.on md) env st) Q = wl (run Pg cf as (.on md) env st) fun xs st1 => xs.length ≤ sz ∧ Q (.ref st1.length) (st1 ++ [.tup xs]) := by
  simp only [run, moq, cfm_on, if_true, wv_bs, w_if, wv_new]
theorem w_lst : wv (run Pg cf (.lst as) (.on md) env st) Q = wl (run Pg cf as (.on md) env st) fun xs st1 => xs.length ≤ sz ∧ Q (.ref st1.length) (st1 ++ [.lst xs]) := by
  simp only [run, moq, cfm_on, if_true, wv_bs, w_if, wv_new]
theorem w_dic0 : wv (run Pg cf .dic0 (.on md) env st) Q = Q (.ref st.length) (st ++ [.dK []]) := propext Iff.rfl
theorem w_call : wv (run Pg cf (.call x as) (.on md) env st) Q = wl (run Pg cf as (.on md) env st) fun xs st1 => wv (cf md x xs st1) Q := by
  simp only [run, moq, cfm_on, if_true, wv_bs, wv_exE]
theorem w_bif {f : Bi} : wv (run Pg cf (.bif f as) (.on md) env st) Q = wl (run Pg cf as (.on md) env st) fun xs st1 => wv (bifD (.on md) f xs st1) Q := by
  simp only [run, moq, cfm_on, if_true, wv_bs]
theorem w_isi {t : Ty} : wv (run Pg cf (.isi a t) (.on md) env st) Q = wv (run Pg cf a (.on md) env st) fun x st1 => ∃ t', isTy x st1 = some t' ∧ Q (.bl (subTy t' t)) st1 := by
  simp only [run, moq, cfm_on, if_true, wv_b1]
  congr 1
  funext x st1
  cases isTy x st1 with
  | none => exact propext ⟨fun h => h.elim, fun ⟨_, e, _⟩ => nomatch e⟩
  | some t' => simp [wv_one]
theorem w_bm {m : Mt} : wv (run Pg cf (.bm m o as) (.on md) env st) Q = wv (run Pg cf o (.on md) env st) fun x st1 => bmTy m x st1 = true ∧ wl (run Pg cf as (.on md) env st1) fun xs st2 => wv (bmD m x xs st2) Q := by
  simp only [run, moq, cfm_on, if_true, wv_b1, w_if, wv_bs]
theorem w_idx : wv (run Pg cf (.idx a i) (.on md) env st) Q = wv (run Pg cf a (.on md) env st) fun x st1 => wv (run Pg cf i (.on md) env st1) fun y st2 => wv (idxD x y st2) Q := by
  simp only [run, moq, cfm_on, if_true, wv_b1]
theorem w_slc : wv (run Pg cf (.slc a lo hi) (.on md) env st) Q = wv (run Pg cf a (.on md) env st) fun x st1 => wl (run Pg cf lo (.on md) env st1) fun l st2 => ∃ l', part l = some l' ∧ wl (run Pg cf hi (.on md) env st2) fun h st3 => ∃ h', part h = some h' ∧ wv (slcD x l' h' st3) Q := by
  simp only [run, moq, cfm_on, if_true, wv_b1, wv_bs]
  congr 1
  funext x st1
  congr 1
  funext l st2
  cases part l with
  | none => exact propext ⟨fun h => h.elim, fun ⟨_, e, _⟩ => nomatch e⟩
  | some l' =>
    simp only [Option.some.injEq, exists_eq_left', wv_bs]
    congr 1
    funext h st3
    cases part h with
    | none => exact propext ⟨fun h => h.elim, fun ⟨_, e, _⟩ => nomatch e⟩
    | some h' => simp
/-! ### statements -/
theorem z_don : wz (run Pg cf .don (.on md) env st) N Rt = N env st := propext Iff.rfl
theorem z_seq : wz (run Pg cf (.seq a b) (.on md) env st) N Rt = wz (run Pg cf a (.on md) env st) (fun e1 st1 => wz (run Pg cf b (.on md) e1 st1) N Rt) Rt := by
  simp only [run, moq, cfm_on, if_true, wz_bn]
theorem z_asgN : wz (run Pg cf (.asgN n e) (.on md) env st) N Rt = wv (run Pg cf e (.on md) env st) fun v st1 => n < env.length ∧ N (env.set n (some v)) st1 := by
  simp only [run, moq, cfm_on, if_true, wz_b1, wv_exE, wz_if]
  rfl
theorem z_asgI : wz (run Pg cf (.asgI o i e) (.on md) env st) N Rt = wv (run Pg cf e (.on md) env st) fun v st1 => wv (run Pg cf o (.on md) env st1) fun x st2 => wv (run Pg cf i (.on md) env st2) fun y st3 => ∃ st4, setI x y v st3 = some st4 ∧ N env st4 := by
  simp only [run, moq, cfm_on, if_true, wz_b1, wv_exE]
  congr 1
  funext v st1
  congr 1
  funext x st2
  congr 1
  funext y st3
  cases setI x y v st3 with
  | none => exact propext ⟨fun h => h.elim, fun ⟨_, e, _⟩ => nomatch e⟩
  | some st4 => simp [wz]
theorem z_augA : wz (run Pg cf (.aug n .Add e) (.on md) env st) N Rt = ∃ x, env[n]? = some (some x) ∧ wv (run Pg cf e (.on md) env st) fun y st1 => ∃ a b, x = .int a ∧ y = .int b ∧ N (env.set n (some (.int (a + b)))) st1 := by
  simp only [run, moq, cfm_on, if_true]
  split
  · rename_i x h
    rw [h]
    simp only [Option.some.injEq, exists_eq_left', wz_b1, wv_exE]
    congr 1
    funext y st1
    cases x <;> cases y <;> simp [wz]
  · rename_i h
    exact propext ⟨fun h => h.elim, fun ⟨x, e, _⟩ => (h x e).elim⟩
theorem z_drop : wz (run Pg cf (.drop e) (.on md) env st) N Rt = wv (run Pg cf e (.on md) env st) fun _ st1 => N env st1 := by
  simp only [run, moq, cfm_on, if_true, wz_b1, wv_exE]
  rfl
theorem z_ret : wz (run Pg cf (.ret e) (.on md) env st) N Rt = wv (run Pg cf e (.on md) env st) Rt := by
  simp only [run, moq, cfm_on, if_true, wz_b1, wv_exE]
  rfl
theorem z_retN : wz (run Pg cf .retN (.on md) env st) N Rt = Rt .non st := propext Iff.rfl
theorem z_ifs : wz (run Pg cf (.ifs c a b) (.on md) env st) N Rt = wv (run Pg cf c (.on md) env st) fun v st1 => tr (truth v st1) (wz (run Pg cf a (.on md) env st1) N Rt) (wz (run Pg cf b (.on md) env st1) N Rt) := by
  simp only [run, moq, cfm_on, if_true, wz_b1, wv_exE]
  congr 1
  funext v st1
  cases truth v st1 with
  | none => rfl
  | some b => cases b <;> rfl
end
/-! ### operations -/
section
variable {st : Store} {Q : V → Store → Prop} {i j : Int} {s t : Str} {p q : Nat} {xs ys : List V} {x y : V}
theorem o_add : wv (binD .Add (.int i) (.int j) st) Q = Q (.int (i + j)) st := propext Iff.rfl
theorem o_sub : wv (binD .Sub (.int i) (.int j) st) Q = Q (.int (i - j)) st := propext Iff.rfl
theorem o_mul : wv (binD .Mult (.int i) (.int j) st) Q = (mulOk i j = true ∧ Q (.int (i * j)) st) := by
  simp only [binD, w_if, wv_one]
theorem o_mulL (h : i.natAbs < 2 ^ 64) : wv (binD .Mult (.int i) (.int j) st) Q = Q (.int (i * j)) st := by
  have : mulOk i j = true := by simp [mulOk, h]
  rw [o_mul, this]
  simp
theorem o_mulR (h : j.natAbs < 2 ^ 64) : wv (binD .Mult (.int i) (.int j) st) Q = Q (.int (i * j)) st := by
  have : mulOk i j = true := by simp [mulOk, h]
  rw [o_mul, this]
  simp
theorem o_div (h : 0 < j) (h2 : j < 1073741824) : wv (binD .FloorDiv (.int i) (.int j) st) Q = Q (.int (i / j)) st := by
  simp only [binD]
  rw [if_pos ⟨by omega, by omega⟩, Int.fdiv_eq_ediv_of_nonneg i (by omega)]
  rfl
theorem o_mod (h : 0 < j) : wv (binD .Mod (.int i) (.int j) st) Q = Q (.int (i % j)) st := by
  simp only [binD]
  rw [if_pos (by omega), Int.fmod_eq_emod_of_nonneg i (by omega)]
  rfl
theorem o_addS (h : s.length + t.length ≤ sz) : wv (binD .Add (.str s) (.str t) st) Q = Q (.str (s ++ t)) st := by
  simp only [binD]
  rw [if_pos h]
  rfl
theorem o_addL (hp : st[p]? = some (.lst xs)) (hq : st[q]? = some (.lst ys)) (h : xs.length + ys.length ≤ sz) : wv (binD .Add (.ref p) (.ref q) st) Q = Q (.ref st.length) (st ++ [.lst (xs ++ ys)]) := by
  simp only [binD, hp, hq]
  rw [if_pos h]
  rfl
theorem c_eqI : wv (cmpD .Eq (.int i) (.int j) st) Q = Q (.bl (decide (i = j))) st := by
  simp [cmpD, eqD, scal, ofB, wv, one]
theorem c_neI : wv (cmpD .NotEq (.int i) (.int j) st) Q = Q (.bl (!decide (i = j))) st := by
  simp [cmpD, eqD, scal, ofB, wv, one]
theorem c_eqS : wv (cmpD .Eq (.str s) (.str t) st) Q = Q (.bl (decide (s = t))) st := by
  simp [cmpD, eqD, scal, ofB, wv, one]
theorem c_neS : wv (cmpD .NotEq (.str s) (.str t) st) Q = Q (.bl (!decide (s = t))) st := by
  simp [cmpD, eqD, scal, ofB, wv, one]
theorem c_lt : wv (cmpD .Lt (.int i) (.int j) st) Q = Q (.bl (decide (i < j))) st := propext Iff.rfl
theorem c_le : wv (cmpD .LtE (.int i) (.int j) st) Q = Q (.bl (decide (i ≤ j))) st := propext Iff.rfl
theorem c_gt : wv (cmpD .Gt (.int i) (.int j) st) Q = Q (.bl (decide (j < i))) st := propext Iff.rfl
theorem c_ge : wv (cmpD .GtE (.int i) (.int j) st) Q = Q (.bl (decide (j ≤ i))) st := propext Iff.rfl
theorem c_is : wv (cmpD .Is x .non st) Q = Q (.bl (decide (x = .non))) st := propext Iff.rfl
theorem c_isnot : wv (cmpD .IsNot x .non st) Q = Q (.bl (!decide (x = .non))) st := propext Iff.rfl
theorem i_at {v : V} (h : items st (.ref p) = some xs) (hi : atI xs i = some v) : wv (idxD (.ref p) (.int i) st) Q = Q v st := by
  simp only [idxD, h, hi]
  rfl
theorem items_lst (h : st[p]? = some (.lst xs)) : items st (.ref p) = some xs := by simp [items, h]
theorem items_fro (h : st[p]? = some (.fro xs)) : items st (.ref p) = some xs := by simp [items, h]
theorem items_tup (h : st[p]? = some (.tup xs)) : items st (.ref p) = some xs := by simp [items, h]
theorem b_len (h : items st (.ref p) = some xs) : wv (bifD (.on md) .len [.ref p] st) Q = Q (.int xs.length) st := by
  unfold items at h
  simp only at h
  simp only [bifD]
  split at h <;> rename_i e <;> first | (cases h; exact wv_one) | (cases h; done)
theorem b_list (h : items st (.ref p) = some xs) : wv (bifD (.on md) .list [.ref p] st) Q = Q (.ref st.length) (st ++ [.lst xs]) := by
  unfold items at h
  simp only at h
  simp only [bifD]
  split at h <;> rename_i e <;> first | (cases h; simp only [e]; exact wv_new) | (cases h; done)
theorem m_app (h : st[p]? = some (.lst xs)) (hl : xs.length < sz) : (bmTy .lAppend (.ref p) st = true) ∧ wv (bmD .lAppend (.ref p) [y] st) Q = Q .non (st.set p (.lst (xs ++ [y]))) := by
  refine ⟨by simp [bmTy, h], ?_⟩
  simp only [bmD, h]
  rw [if_pos hl]
  rfl
end
/-! ### calls, loops -/
section
variable {Pg : Prog} {Q Rt : V → Store → Prop} {N : Ev → Store → Prop} {st : Store} {env : Ev}
theorem callN_w {d : Nat} {f : Str} {F : Fn} {vs : List V} (hf : Pg.fn f = some F) (hl : vs.length = F.ps.length) (h : wz (run Pg (callN Pg d) F.body (.on md) (start F.N vs) st) (fun _ st' => Q .non st') Q) : wv (callN Pg (d + 1) md f vs st) Q := by
  show wv (match Pg.fn f with
    | none => Mi.R.stk
    | some F => _) Q
  rw [hf]
  dsimp only
  rw [if_pos ⟨by omega, by omega⟩, hl, show F.ps.length + F.dfl.length - F.ps.length = F.dfl.length from by omega, List.drop_length, List.append_nil]
  revert h
  cases run Pg (callN Pg d) F.body (.on md) (start F.N vs) st <;> exact fun h => h
theorem loop_w {cu : Nat → Store → Option (Option (V × Store))} {bd : V → Ev → Store → R} {n : Nat} (Inv : Nat → Ev → Store → Prop)
    (hs : ∀ j env st, j < n → Inv j env st → ∃ x st1, cu j st = some (some (x, st1)) ∧ wz (bd x env st1) (Inv (j + 1)) Rt) (he : ∀ env st, Inv n env st → cu n st = some none ∧ N env st) :
    ∀ (k i m : Nat) (env : Ev) (st : Store), i + k = n → k < m → Inv i env st → wz (loopN cu bd m i env st) N Rt
  | 0, i, m + 1, env, st, hi, _, h => by
    have hi : i = n := by omega
    subst hi
    obtain ⟨e, h1⟩ := he env st h
    unfold loopN
    rw [e]
    exact h1
  | k + 1, i, m + 1, env, st, hi, hm, h => by
    obtain ⟨x, st1, e, h1⟩ := hs i env st (by omega) h
    unfold loopN
    rw [e]
    dsimp only
    rw [wz_bn]
    exact h1.imp (fun e2 st2 h2 => loop_w Inv hs he k (i + 1) m e2 st2 (by omega) (by omega) h2) (fun _ _ h => h)
theorem setN {n : Nat} {x : V} (h : n < env.length) : setTg (.n n) x env st = some (env.set n (some x)) := by
  simp [setTg, h]
theorem rngB {n : Nat} (hn : n < 2 ^ 62) : -(2 ^ 62) ≤ (n : Int) ∧ (n : Int) < 2 ^ 62 := by
  have h : (4611686018427387904 : Nat) = 2 ^ 62 := by decide
  rw [← h] at hn
  have h2 : (4611686018427387904 : Int) = 2 ^ 62 := by decide
  rw [← h2]
  omega
theorem cur_rng1 {n j : Nat} {st : Store} (hn : n < 2 ^ 62) : cur .rng1 [.int (n : Int)] j st = if j < n then some (some (.int (j : Int), st)) else some none := by
  unfold cur
  dsimp only
  rw [if_pos (rngB hn), Int.toNat_natCast]
def bdT (tg : Tg) (bd : Ev → Store → R) (x : V) (env : Ev) (st : Store) : R := match setTg tg x env st with
  | none => .stk
  | some env3 => bd env3 st
theorem bdT_n {v : Nat} {bd : Ev → Store → R} {x : V} (h : v < env.length) : bdT (.n v) bd x env st = bd (env.set v (some x)) st := by
  unfold bdT
  rw [setN h]
theorem z_for {cf : Bool → Str → List V → Store → R} {md : Bool} {tg : Tg} {k : Ik} {a b : T} : wz (run Pg cf (.for tg k a b) (.on md) env st) N Rt = wl (run Pg cf a (.on md) env st) fun vs st1 => wz (loopN (cur (rk k vs st1) vs) (bdT tg (run Pg cf b (.on md))) (turns k vs st1 + 1) 0 env st1) N Rt := by
  have e : bdT tg (run Pg cf b (.on md)) = (fun x env2 st2 => match setTg tg x env2 st2 with
      | none => .stk
      | some env3 => run Pg cf b (.on md) env3 st2) := rfl
  simp only [run, moq, cfm_on, if_true, wz_bs, wl_exE, e]
  all_goals rfl
theorem loopRng {cu : Nat → Store → Option (Option (V × Store))} {bd : Ev → Store → R} {v n m : Nat} (hc : ∀ j st, cu j st = if j < n then some (some (.int (j : Int), st)) else some none) (hm : n < m) (Inv : Nat → Ev → Store → Prop)
    (hs : ∀ j env st, j < n → Inv j env st → v < env.length ∧ wz (bd (env.set v (some (.int (j : Int)))) st) (Inv (j + 1)) Rt) (he : ∀ env st, Inv n env st → N env st) (h0 : Inv 0 env st) : wz (loopN cu (bdT (.n v) bd) m 0 env st) N Rt := by
  refine loop_w Inv (n := n) ?_ ?_ n 0 _ env st (Nat.zero_add n) hm h0
  · intro j env st hj hI
    obtain ⟨hv, h1⟩ := hs j env st hj hI
    refine ⟨.int (j : Int), st, ?_, ?_⟩
    · rw [hc, if_pos hj]
    · rw [bdT_n hv]
      exact h1
  · intro env st hI
    refine ⟨?_, he env st hI⟩
    rw [hc, if_neg (Nat.lt_irrefl n)]
theorem one_arg {cf : Bool → Str → List V → Store → R} {md : Bool} {a : T} {P : V → Store → Prop} (h : wv (run Pg cf a (.on md) env st) P) : wl (run Pg cf (.cons a .nil) (.on md) env st) fun vs st1 => ∃ x, vs = [x] ∧ P x st1 := by
  rw [w_cons]
  refine h.imp fun x st1 hx => ?_
  rw [w_nil]
  exact ⟨x, rfl, hx⟩
theorem hm1 {n : Nat} {st : Store} : n < turns .rng1 [.int (n : Int)] st + 1 := by simp [turns]
/-- for x in range(n) -/
theorem for_rng1 {cf : Bool → Str → List V → Store → R} {md : Bool} {a b : T} {v n : Nat} (Inv : Nat → Ev → Store → Prop) (hn : n < 2 ^ 62) (h : wv (run Pg cf a (.on md) env st) fun x st1 => x = .int (n : Int) ∧ Inv 0 env st1)
    (hs : ∀ j env st, j < n → Inv j env st → v < env.length ∧ wz (run Pg cf b (.on md) (env.set v (some (.int (j : Int)))) st) (Inv (j + 1)) Rt) (he : ∀ env st, Inv n env st → N env st) : wz (run Pg cf (.for (.n v) .rng1 (.cons a .nil) b) (.on md) env st) N Rt := by
  rw [z_for]
  refine (one_arg h).imp ?_
  rintro vs st1 ⟨x, rfl, rfl, h0⟩
  have hk : rk .rng1 [V.int (n : Int)] st1 = .rng1 := by simp only [rk]
  rw [hk]
  have hc : ∀ j st, cur .rng1 [V.int (n : Int)] j st = if j < n then some (some (.int (j : Int), st)) else some none := fun j st => cur_rng1 hn
  have hm : n < turns .rng1 [V.int (n : Int)] st1 + 1 := hm1
  clear hn
  generalize cur .rng1 [V.int (n : Int)] = cu at hc ⊢
  generalize turns .rng1 [V.int (n : Int)] st1 + 1 = m at hm ⊢
  exact loopRng hc hm Inv hs he h0
/-- for x in a list that stays -/
theorem for_lst {cf : Bool → Str → List V → Store → R} {md : Bool} {a b : T} {v p : Nat} {xs : List V} (Inv : Nat → Ev → Store → Prop) (hp : ∀ j env st, Inv j env st → st[p]? = some (.lst xs)) (h : wv (run Pg cf a (.on md) env st) fun x st1 => x = .ref p ∧ Inv 0 env st1)
    (hs : ∀ j x env st, xs[j]? = some x → Inv j env st → v < env.length ∧ wz (run Pg cf b (.on md) (env.set v (some x)) st) (Inv (j + 1)) Rt) (he : ∀ env st, Inv xs.length env st → N env st) : wz (run Pg cf (.for (.n v) .seq a b) (.on md) env st) N Rt := by
  simp only [run, moq, cfm_on, if_true, wz_bs, wl_exE]
  have h' : wl (run Pg cf a (.on md) env st) fun vs st1 => vs = [.ref p] ∧ Inv 0 env st1 := by
    revert h
    cases run Pg cf a (.on md) env st with
    | val vs st1 => match vs with
      | [] => exact fun h => h.elim
      | [x] => exact fun ⟨h, h1⟩ => ⟨by rw [h], h1⟩
      | _ :: _ :: _ => exact fun h => h.elim
    | _ => exact fun h => h.elim
  refine h'.imp fun vs st1 ⟨hx, h0⟩ => ?_
  subst hx
  have e1 := hp _ _ _ h0
  have ek : rk .seq [.ref p] st1 = .lstk := by simp [rk, e1]
  rw [ek]
  refine loop_w Inv (n := xs.length) ?_ ?_ xs.length 0 _ env st1 (by omega) (by simp [turns, items, e1]) h0
  · intro j env st hj hI
    obtain ⟨hv, h1⟩ := hs j xs[j] env st (List.getElem?_eq_getElem hj) hI
    refine ⟨xs[j], st, ?_, ?_⟩
    · simp [cur, hp _ _ _ hI, nth, List.getElem?_eq_getElem hj]
    · rw [setN hv]
      exact h1
  · intro env st hI
    refine ⟨?_, he env st hI⟩
    simp [cur, hp _ _ _ hI, nth]
theorem whl_w {c b : Ev → Store → R} (Inv : Nat → Ev → Store → Prop) (hs : ∀ k env st, Inv k env st → wv (c env st) fun v st1 => tr (truth v st1) (wz (b env st1) (fun e2 st2 => ∃ k', k' < k ∧ Inv k' e2 st2) Rt) (N env st1)) :
    ∀ (m k : Nat) (env : Ev) (st : Store), k < m → Inv k env st → wz (whlN c b m env st) N Rt
  | 0, k, _, _, h, _ => absurd h (by omega)
  | m + 1, k, env, st, h, hI => by
    unfold whlN
    rw [wz_b1]
    refine (hs k env st hI).imp fun v st1 h1 => ?_
    revert h1
    cases truth v st1 with
    | none => exact fun h => h
    | some b => cases b with
      | false => exact fun h => h
      | true =>
        intro h1
        show wz (R.bn _ _) N Rt
        rw [wz_bn]
        exact wz.imp h1 (fun e2 st2 ⟨k', hk, hI'⟩ => whl_w Inv hs m k' e2 st2 (by omega) hI') (fun _ _ h => h)
theorem z_whl {cf : Bool → Str → List V → Store → R} {md : Bool} {c b : T} (Inv : Nat → Ev → Store → Prop) {k : Nat} (hk : k < 1000000) (h0 : Inv k env st)
    (hs : ∀ k env st, Inv k env st → wv (run Pg cf c (.on md) env st) fun v st1 => tr (truth v st1) (wz (run Pg cf b (.on md) env st1) (fun e2 st2 => ∃ k', k' < k ∧ Inv k' e2 st2) Rt) (N env st1)) : wz (run Pg cf (.whl c b) (.on md) env st) N Rt := by
  simp only [run, moq, cfm_on, if_true]
  refine whl_w Inv (fun k env st hI => ?_) wBound k env st hk h0
  rw [wv_exE]
  exact hs k env st hI
theorem lc_w {cu : Nat → Store → Option (Option (V × Store))} {bd : V → Store → R} {D n : Nat} (Inv : Nat → List V → Store → Prop)
    (hs : ∀ j acc st, j < n → Inv j acc st → ∃ x st1, cu j st = some (some (x, st1)) ∧ wl (bd x st1) fun ys st2 => (ys = [] ∧ Inv (j + 1) acc st2) ∨ ∃ y, ys = [y] ∧ st2[D]? = some (.lst acc) ∧ acc.length < sz ∧ Inv (j + 1) (acc ++ [y]) (st2.set D (.lst (acc ++ [y]))))
    (he : ∀ acc st, Inv n acc st → cu n st = some none ∧ Q (.ref D) st) : ∀ (k i m : Nat) (acc : List V) (st : Store), i + k = n → k < m → Inv i acc st → wv (lcN cu bd D m i st) Q
  | 0, i, m + 1, acc, st, hi, _, h => by
    have hi : i = n := by omega
    subst hi
    obtain ⟨e, h1⟩ := he acc st h
    unfold lcN
    rw [e]
    exact h1
  | k + 1, i, m + 1, acc, st, hi, hm, h => by
    obtain ⟨x, st1, e, h1⟩ := hs i acc st (by omega) h
    unfold lcN
    rw [e]
    dsimp only
    revert h1
    cases bd x st1 with
    | val ys st2 =>
      intro h1
      rcases h1 with ⟨rfl, h2⟩ | ⟨y, rfl, hD, hl, h2⟩
      · exact lc_w Inv hs he k (i + 1) m acc st2 (by omega) (by omega) h2
      · dsimp only
        rw [hD]
        dsimp only
        rw [if_pos hl]
        exact lc_w Inv hs he k (i + 1) m _ _ (by omega) (by omega) h2
    | _ => exact fun h => h.elim
def bdL (tg : Tg) (env0 : Ev) (ev : Ev → Store → R) (x : V) (st : Store) : R := match setTg tg x env0 st with
  | none => .stk
  | some env2 => (ev env2 st).b1 fun v st4 => .val [v] st4
theorem bdL_n {v : Nat} {ev : Ev → Store → R} {x : V} (h : v < env.length) : bdL (.n v) env ev x st = (ev (env.set v (some x)) st).b1 fun v st4 => .val [v] st4 := by
  unfold bdL
  rw [setN h]
theorem w_lc0 {cf : Bool → Str → List V → Store → R} {md : Bool} {tg : Tg} {k : Ik} {own : List Nat} {a e : T} : wv (run Pg cf (.lc own tg k a .nil e) (.on md) env st) Q = wl (run Pg cf a (.on md) env st) fun vs st1 => (∃ o, cur (rk k vs st1) vs 0 st1 = some o) ∧ wv (lcN (cur (rk k vs st1) vs) (bdL tg (wipe env own) (run Pg cf e (.on md))) st1.length (turns k vs st1 + 1) 0 (st1 ++ [.lst []])) Q := by
  have e1 : run Pg cf (.lc own tg k a .nil e) (.on md) env st = (run Pg cf a (.on md) env st).bs fun vs st1 => match cur (rk k vs st1) vs 0 st1 with
    | none => .stk
    | some _ => lcN (cur (rk k vs st1) vs) (bdL tg (wipe env own) (run Pg cf e (.on md))) st1.length (turns k vs st1 + 1) 0 (st1 ++ [.lst []]) := rfl
  rw [e1, wv_bs]
  congr 1
  funext vs st1
  cases cur (rk k vs st1) vs 0 st1 with
  | none => exact propext ⟨fun h => h.elim, fun ⟨⟨_, h⟩, _⟩ => nomatch h⟩
  | some o => simp
theorem lcRng {cu : Nat → Store → Option (Option (V × Store))} {ev : Ev → Store → R} {v n m D : Nat} (hc : ∀ j st, cu j st = if j < n then some (some (.int (j : Int), st)) else some none) (hm : n < m) (Inv : Nat → List V → Store → Prop) (hv : v < env.length)
    (hs : ∀ j acc st, j < n → Inv j acc st → wv (ev (env.set v (some (.int (j : Int)))) st) fun y st2 => st2[D]? = some (.lst acc) ∧ acc.length < sz ∧ Inv (j + 1) (acc ++ [y]) (st2.set D (.lst (acc ++ [y])))) (he : ∀ acc st, Inv n acc st → Q (.ref D) st) (h0 : Inv 0 [] st) :
    wv (lcN cu (bdL (.n v) env ev) D m 0 st) Q := by
  refine lc_w Inv (n := n) ?_ ?_ n 0 _ [] _ (Nat.zero_add n) hm h0
  · intro j acc st hj hI
    refine ⟨.int (j : Int), st, ?_, ?_⟩
    · rw [hc, if_pos hj]
    · rw [bdL_n hv, wl_b1]
      exact (hs j acc st hj hI).imp fun y st2 h2 => .inr ⟨y, rfl, h2⟩
  · intro acc st hI
    refine ⟨?_, he acc st hI⟩
    rw [hc, if_neg (Nat.lt_irrefl n)]
/-- [e for x in range(n)] -/
theorem lc_rng1 {cf : Bool → Str → List V → Store → R} {md : Bool} {a e : T} {v n : Nat} {own : List Nat} (Inv : Nat → List V → Store → Prop) (hn : n < 2 ^ 62) (D : Nat) (hv : v < (wipe env own).length) (h : wv (run Pg cf a (.on md) env st) fun x st1 => x = .int (n : Int) ∧ D = st1.length ∧ Inv 0 [] (st1 ++ [.lst []]))
    (hs : ∀ j acc st, j < n → Inv j acc st → wv (run Pg cf e (.on md) ((wipe env own).set v (some (.int (j : Int)))) st) fun y st2 => st2[D]? = some (.lst acc) ∧ acc.length < sz ∧ Inv (j + 1) (acc ++ [y]) (st2.set D (.lst (acc ++ [y])))) (he : ∀ acc st, Inv n acc st → Q (.ref D) st) :
    wv (run Pg cf (.lc own (.n v) .rng1 (.cons a .nil) .nil e) (.on md) env st) Q := by
  rw [w_lc0]
  refine (one_arg h).imp ?_
  rintro vs st1 ⟨x, rfl, rfl, rfl, h0⟩
  have hk : rk .rng1 [V.int (n : Int)] st1 = .rng1 := by simp only [rk]
  rw [hk]
  have hc : ∀ j st, cur .rng1 [V.int (n : Int)] j st = if j < n then some (some (.int (j : Int), st)) else some none := fun j st => cur_rng1 hn
  have hm : n < turns .rng1 [V.int (n : Int)] st1 + 1 := hm1
  clear hn
  generalize cur .rng1 [V.int (n : Int)] = cu at hc ⊢
  generalize turns .rng1 [V.int (n : Int)] st1 + 1 = m at hm ⊢
  refine ⟨?_, lcRng hc hm Inv hv hs he h0⟩
  rw [hc]
  by_cases h0 : 0 < n
  · rw [if_pos h0]
    exact ⟨_, rfl⟩
  · rw [if_neg h0]
    exact ⟨_, rfl⟩
/-- [e for x in xs]: a list that stays -/
theorem lc_lst {cf : Bool → Str → List V → Store → R} {md : Bool} {a e : T} {v p : Nat} {xs : List V} {own : List Nat} (Inv : Nat → List V → Store → Prop) (D : Nat) (hv : v < (wipe env own).length) (hp : ∀ j acc st, Inv j acc st → st[p]? = some (.lst xs))
    (h : wv (run Pg cf a (.on md) env st) fun x st1 => x = .ref p ∧ st1[p]? = some (.lst xs) ∧ D = st1.length ∧ Inv 0 [] (st1 ++ [.lst []]))
    (hs : ∀ j x acc st, xs[j]? = some x → Inv j acc st → wv (run Pg cf e (.on md) ((wipe env own).set v (some x)) st) fun y st2 => st2[D]? = some (.lst acc) ∧ acc.length < sz ∧ Inv (j + 1) (acc ++ [y]) (st2.set D (.lst (acc ++ [y])))) (he : ∀ acc st, Inv xs.length acc st → Q (.ref D) st) :
    wv (run Pg cf (.lc own (.n v) .seq a .nil e) (.on md) env st) Q := by
  rw [w_lc0]
  have h' : wl (run Pg cf a (.on md) env st) fun vs st1 => vs = [.ref p] ∧ st1[p]? = some (.lst xs) ∧ D = st1.length ∧ Inv 0 [] (st1 ++ [.lst []]) := by
    revert h
    cases run Pg cf a (.on md) env st with
    | val vs st1 => match vs with
      | [] => exact fun h => h.elim
      | [x] => exact fun ⟨h, h1⟩ => ⟨by rw [h], h1⟩
      | _ :: _ :: _ => exact fun h => h.elim
    | _ => exact fun h => h.elim
  refine h'.imp ?_
  rintro vs st1 ⟨rfl, e1, rfl, h0⟩
  have ek : rk .seq [.ref p] st1 = .lstk := by simp [rk, e1]
  rw [ek]
  refine ⟨?_, ?_⟩
  · simp only [cur, e1, nth]
    split
    · exact ⟨_, rfl⟩
    · exact ⟨_, rfl⟩
  refine lc_w Inv (n := xs.length) ?_ ?_ xs.length 0 _ [] _ (Nat.zero_add _) (by simp [turns, items, e1]) h0
  · intro j acc st hj hI
    refine ⟨xs[j], st, ?_, ?_⟩
    · simp [cur, hp _ _ _ hI, nth, List.getElem?_eq_getElem hj]
    · rw [bdL_n hv, wl_b1]
      exact (hs j xs[j] acc st (List.getElem?_eq_getElem hj) hI).imp fun y st2 h2 => .inr ⟨y, rfl, h2⟩
  · intro acc st hI
    refine ⟨?_, he acc st hI⟩
    simp [cur, hp _ _ _ hI, nth]
end
/-! ### methods, classes, fields -/
section
variable {Pg : Prog} {cf : Bool → Str → List V → Store → R} {md : Bool} {env : Ev} {st : Store} {Q Rt : V → Store → Prop} {N : Ev → Store → Prop} {a b c e i o as : T} {f m x : Str} {op op2 : CmpOp}
theorem w_meth : wv (run Pg cf (.meth m o as) (.on md) env st) Q = wv (run Pg cf o (.on md) env st) fun x st1 => ∃ p c fs f, x = .ref p ∧ st1[p]? = some (.ins c fs) ∧ fs.lookup m = none ∧ Pg.meth c m = some f ∧ wl (run Pg cf as (.on md) env st1) fun xs st2 => wv (cf md f (.ref p :: xs) st2) Q := by
  simp only [run, moq, cfm_on, if_true, wv_b1]
  congr 1
  funext x st1
  cases x with
  | ref p =>
    dsimp only
    cases h : st1[p]? with
    | none => exact propext ⟨fun h => h.elim, fun ⟨_, _, _, _, e, e2, _⟩ => by cases e; rw [h] at e2; cases e2⟩
    | some ob =>
      cases ob with
      | ins c fs =>
        dsimp only
        cases h2 : fs.lookup m with
        | some v => exact propext ⟨fun h => h.elim, fun ⟨_, _, _, _, e, e2, e3, _⟩ => by cases e; rw [h] at e2; cases e2; rw [h2] at e3; cases e3⟩
        | none =>
          simp only [Option.isNone, if_true]
          cases h3 : Pg.meth c m with
          | none => exact propext ⟨fun h => h.elim, fun ⟨_, _, _, _, e, e2, e3, e4, _⟩ => by cases e; rw [h] at e2; cases e2; rw [h3] at e4; cases e4⟩
          | some f =>
            simp only [wv_bs, wv_exE]
            exact propext ⟨fun q => ⟨p, c, fs, f, rfl, h, h2, h3, q⟩, fun ⟨_, _, _, _, e, e2, e3, e4, q⟩ => by cases e; rw [h] at e2; cases e2; rw [h3] at e4; cases e4; exact q⟩
      | _ => exact propext ⟨fun h => h.elim, fun ⟨_, _, _, _, e, e2, _⟩ => by cases e; rw [h] at e2; cases e2⟩
  | _ => exact propext ⟨fun h => h.elim, fun ⟨_, _, _, _, e, _⟩ => by cases e⟩
theorem w_mk : wv (run Pg cf (.mk x as) (.on md) env st) Q = ∃ f, Pg.made x = true ∧ Pg.meth x "__init__" = some f ∧ wl (run Pg cf as (.on md) env st) fun xs st1 => wv (cf md f (.ref st1.length :: xs) (st1 ++ [.ins x []])) fun v st2 => v = .non ∧ Q (.ref st1.length) st2 := by
  simp only [run, moq, cfm_on, if_true]
  cases h1 : Pg.made x with
  | false => exact propext ⟨fun h => h.elim, fun ⟨_, e, _⟩ => nomatch e⟩
  | true =>
    simp only [if_true]
    cases h2 : Pg.meth x "__init__" with
    | none => exact propext ⟨fun h => h.elim, fun ⟨_, _, e, _⟩ => nomatch e⟩
    | some f =>
      simp only [wv_bs, wv_b1, wv_exE]
      have e : (fun (vs : List V) (st1 : Store) => wv (cf md f (V.ref st1.length :: vs) (st1 ++ [IO.ins x []])) fun v st2 => wv (match v with
          | .non => one (.ref st1.length) st2
          | _ => .stk) Q) = fun vs st1 => wv (cf md f (V.ref st1.length :: vs) (st1 ++ [IO.ins x []])) fun v st2 => v = .non ∧ Q (.ref st1.length) st2 := by
        funext vs st1
        congr 1
        funext v st2
        cases v with
        | non => simp [wv_one]
        | _ => exact propext ⟨fun h => h.elim, fun ⟨h, _⟩ => nomatch h⟩
      refine (congrArg (wl (run Pg cf as (.on md) env st)) e).trans ?_
      exact propext ⟨fun q => ⟨f, trivial, rfl, q⟩, fun ⟨_, _, e2, q⟩ => by cases e2; exact q⟩
theorem w_fld : wv (run Pg cf (.fld o f) (.on md) env st) Q = wv (run Pg cf o (.on md) env st) fun x st1 => ∃ p c fs v, x = .ref p ∧ st1[p]? = some (.ins c fs) ∧ Pg.fld c f = true ∧ fs.lookup f = some v ∧ Q v st1 := by
  simp only [run, moq, cfm_on, if_true, wv_b1]
  congr 1
  funext x st1
  cases x with
  | ref p =>
    dsimp only
    cases h : st1[p]? with
    | none => exact propext ⟨fun h => h.elim, fun ⟨_, _, _, _, e, e2, _⟩ => by cases e; rw [h] at e2; cases e2⟩
    | some ob =>
      cases ob with
      | ins c fs =>
        dsimp only
        cases h2 : Pg.fld c f with
        | false => exact propext ⟨fun h => h.elim, fun ⟨_, _, _, _, e, e2, e3, _⟩ => by cases e; rw [h] at e2; cases e2; rw [h2] at e3; cases e3⟩
        | true =>
          simp only [if_true]
          cases h3 : fs.lookup f with
          | none => exact propext ⟨fun h => h.elim, fun ⟨_, _, _, _, e, e2, e3, e4, _⟩ => by cases e; rw [h] at e2; cases e2; rw [h3] at e4; cases e4⟩
          | some v => exact propext ⟨fun q => ⟨p, c, fs, v, rfl, h, h2, h3, q⟩, fun ⟨_, _, _, _, e, e2, e3, e4, q⟩ => by cases e; rw [h] at e2; cases e2; rw [h3] at e4; cases e4; exact q⟩
      | _ => exact propext ⟨fun h => h.elim, fun ⟨_, _, _, _, e, e2, _⟩ => by cases e; rw [h] at e2; cases e2⟩
  | _ => exact propext ⟨fun h => h.elim, fun ⟨_, _, _, _, e, _⟩ => by cases e⟩
theorem z_asgF : wz (run Pg cf (.asgF o f e) (.on md) env st) N Rt = wv (run Pg cf e (.on md) env st) fun v st1 => wv (run Pg cf o (.on md) env st1) fun x st2 => ∃ p c fs, x = .ref p ∧ st2[p]? = some (.ins c fs) ∧ fs.length < 1000 ∧ Pg.fld c f = true ∧ N env (st2.set p (.ins c (putF f v fs))) := by
  simp only [run, moq, cfm_on, if_true, wz_b1, wv_exE]
  congr 1
  funext v st1
  congr 1
  funext x st2
  cases x with
  | ref p =>
    dsimp only
    cases h : st2[p]? with
    | none => exact propext ⟨fun h => h.elim, fun ⟨_, _, _, e, e2, _⟩ => by cases e; rw [h] at e2; cases e2⟩
    | some ob =>
      cases ob with
      | ins c fs =>
        dsimp only
        rw [wz_if]
        exact propext ⟨fun ⟨q1, q2⟩ => ⟨p, c, fs, rfl, h, q1.1, q1.2, q2⟩, fun ⟨_, _, _, e, e2, e3, e4, q⟩ => by cases e; rw [h] at e2; cases e2; exact ⟨⟨e3, e4⟩, q⟩⟩
      | _ => exact propext ⟨fun h => h.elim, fun ⟨_, _, _, e, e2, _⟩ => by cases e; rw [h] at e2; cases e2⟩
  | _ => exact propext ⟨fun h => h.elim, fun ⟨_, _, _, e, _⟩ => by cases e⟩
theorem w_cm : wv (run Pg cf (.cm x m as) (.on md) env st) Q = ∃ f, Pg.cm x m = some f ∧ wl (run Pg cf as (.on md) env st) fun xs st1 => wv (cf md f xs st1) Q := by
  simp only [run, moq, cfm_on, if_true]
  cases h : Pg.cm x m with
  | none => exact propext ⟨fun h => h.elim, fun ⟨_, e, _⟩ => nomatch e⟩
  | some f => simp [wv_bs, wv_exE]
theorem w_lset : wv (run Pg cf (.lset a) (.on false) env st) Q = wv (run Pg cf a (.on false) env st) fun x st1 => ∃ xs ys, lstOf st1 x = some xs ∧ allS xs = some ys ∧ (ys.length ≤ 4000 ∧ ys.Nodup) ∧ Q (.int (ys.length : Nat)) st1 := by
  simp only [run, if_true, wv_b1]
  congr 1
  funext x st1
  cases h : lstOf st1 x with
  | none => exact propext ⟨fun h => h.elim, fun ⟨_, _, e, _⟩ => nomatch e⟩
  | some xs =>
    dsimp only
    cases h2 : allS xs with
    | none => exact propext ⟨fun h => h.elim, fun ⟨_, _, e, e2, _⟩ => by cases e; rw [h2] at e2; cases e2⟩
    | some ys =>
      dsimp only
      rw [w_if]
      exact propext ⟨fun ⟨q1, q2⟩ => ⟨xs, ys, rfl, h2, q1, q2⟩, fun ⟨_, _, e, e2, e3, q⟩ => by cases e; rw [h2] at e2; cases e2; exact ⟨e3, q⟩⟩
theorem w_lrev : wv (run Pg cf (.lrev a) (.on false) env st) Q = wv (run Pg cf a (.on false) env st) fun x st1 => ∃ xs, lstOf st1 x = some xs ∧ Q (.ref st1.length) (st1 ++ [.lst xs.reverse]) := by
  simp only [run, if_true, wv_b1]
  congr 1
  funext x st1
  cases h : lstOf st1 x with
  | none => exact propext ⟨fun h => h.elim, fun ⟨_, e, _⟩ => nomatch e⟩
  | some xs => simp [wv_new]
theorem w_rsl : wv (run Pg cf (.rsl a) (.on md) env st) Q = wv (run Pg cf a (.on md) env st) fun x st1 => ∃ xs, lstOf st1 x = some xs ∧ Q (.ref st1.length) (st1 ++ [.lst xs.reverse]) := by
  simp only [run, moq, cfm_on, if_true, wv_b1]
  congr 1
  funext x st1
  cases h : lstOf st1 x with
  | none => exact propext ⟨fun h => h.elim, fun ⟨_, e, _⟩ => nomatch e⟩
  | some xs => simp [wv_new]
theorem w_cmp2 : wv (run Pg cf (.cmp2 op op2 a b c) (.on md) env st) Q = wv (run Pg cf a (.on md) env st) fun x st1 => wv (run Pg cf b (.on md) env st1) fun y st2 => wv (cmpD op x y st2) fun z st3 => (z = .bl true ∧ wv (run Pg cf c (.on md) env st3) fun w st4 => wv (cmpD op2 y w st4) Q) ∨ (z = .bl false ∧ Q (.bl false) st3) := by
  simp only [run, moq, cfm_on, if_true, wv_b1]
  congr 1
  funext x st1
  congr 1
  funext y st2
  congr 1
  funext z st3
  cases z with
  | bl k => cases k <;> simp [wv_b1, wv_one]
  | _ => exact propext ⟨fun h => h.elim, fun h => by rcases h with ⟨h, _⟩ | ⟨h, _⟩ <;> cases h⟩
theorem z_augF : wz (run Pg cf (.augF o f e) (.on md) env st) N Rt = wv (run Pg cf o (.on md) env st) fun x st1 => ∃ p c fs i, x = .ref p ∧ st1[p]? = some (.ins c fs) ∧ Pg.fld c f = true ∧ fs.lookup f = some (.int i) ∧ wv (run Pg cf e (.on md) env st1) fun y st2 => ∃ j fs2, y = .int j ∧ st2[p]? = some (.ins c fs2) ∧ fs2.length < 1000 ∧ N env (st2.set p (.ins c (putF f (.int (i - j)) fs2))) := by
  simp only [run, moq, cfm_on, if_true, wz_b1, wv_exE]
  congr 1
  funext x st1
  cases x with
  | ref p =>
    dsimp only
    cases h : st1[p]? with
    | none => exact propext ⟨fun h => h.elim, fun ⟨_, _, _, _, e, e2, _⟩ => by cases e; rw [h] at e2; cases e2⟩
    | some ob =>
      cases ob with
      | ins c fs =>
        dsimp only
        cases h2 : Pg.fld c f with
        | false => exact propext ⟨fun h => h.elim, fun ⟨_, _, _, _, e, e2, e3, _⟩ => by cases e; rw [h] at e2; cases e2; rw [h2] at e3; cases e3⟩
        | true =>
          simp only [if_true]
          cases h3 : fs.lookup f with
          | none => exact propext ⟨fun h => h.elim, fun ⟨_, _, _, _, e, e2, e3, e4, _⟩ => by cases e; rw [h] at e2; cases e2; rw [h3] at e4; cases e4⟩
          | some v =>
            simp only [wz_b1, wv_exE]
            cases v with
            | int i =>
              have key : (fun (y : V) (st2 : Store) => wz (match V.int i, y with
                  | .int i, .int j => match st2[p]? with
                    | some (.ins c2 fs2) => if c2 = c ∧ fs2.length < 1000 then .nxt env (st2.set p (.ins c2 (putF f (.int (i - j)) fs2))) else .stk
                    | _ => .stk
                  | _, _ => .stk) N Rt) = fun y st2 => ∃ j fs2, y = .int j ∧ st2[p]? = some (.ins c fs2) ∧ fs2.length < 1000 ∧ N env (st2.set p (.ins c (putF f (.int (i - j)) fs2))) := by
                funext y st2
                cases y with
                | int j =>
                  dsimp only
                  cases h4 : st2[p]? with
                  | none => exact propext ⟨fun h => h.elim, fun ⟨_, _, e, e2, _⟩ => nomatch e2⟩
                  | some ob2 =>
                    cases ob2 with
                    | ins c2 fs2 =>
                      dsimp only
                      rw [wz_if]
                      exact propext ⟨fun ⟨⟨q1, q2⟩, q3⟩ => by subst q1; exact ⟨j, fs2, rfl, rfl, q2, q3⟩, fun ⟨_, _, e, e2, e3, q⟩ => by cases e; cases e2; exact ⟨⟨rfl, e3⟩, q⟩⟩
                    | _ => exact propext ⟨fun h => h.elim, fun ⟨_, _, e, e2, _⟩ => nomatch e2⟩
                | _ => exact propext ⟨fun h => h.elim, fun ⟨_, _, e, _⟩ => nomatch e⟩
              refine (congrArg (wv (run Pg cf e (.on md) env st1)) key).trans ?_
              exact propext ⟨fun q => ⟨p, c, fs, i, rfl, h, h2, h3, q⟩, fun ⟨_, _, _, _, e, e2, e3, e4, q⟩ => by cases e; rw [h] at e2; cases e2; rw [h3] at e4; cases e4; exact q⟩
            | _ =>
              refine propext ⟨fun q => ?_, fun ⟨_, _, _, _, e, e2, e3, e4, q⟩ => by cases e; rw [h] at e2; cases e2; rw [h3] at e4; cases e4⟩
              exfalso
              revert q
              cases run Pg cf e (.on md) env st1 with
              | val vs st2 => match vs with
                | [] => exact fun h => h
                | [v] => exact fun h => h
                | _ :: _ :: _ => exact fun h => h
              | _ => exact fun h => h
      | _ => exact propext ⟨fun h => h.elim, fun ⟨_, _, _, _, e, e2, _⟩ => by cases e; rw [h] at e2; cases e2⟩
  | _ => exact propext ⟨fun h => h.elim, fun ⟨_, _, _, _, e, _⟩ => by cases e⟩
/-- a call with arguments left out -/
theorem callN_d {d : Nat} {f : Str} {F : Fn} {vs ws : List V} (hf : Pg.fn f = some F) (hl : vs.length ≤ F.ps.length ∧ F.ps.length ≤ vs.length + F.dfl.length) (hw : vs ++ F.dfl.drop (vs.length + F.dfl.length - F.ps.length) = ws)
    (h : wz (run Pg (callN Pg d) F.body (.on md) (start F.N ws) st) (fun _ st' => Q .non st') Q) : wv (callN Pg (d + 1) md f vs st) Q := by
  show wv (match Pg.fn f with
    | none => Mi.R.stk
    | some F => _) Q
  rw [hf]
  dsimp only
  rw [if_pos hl, hw]
  revert h
  cases run Pg (callN Pg d) F.body (.on md) (start F.N ws) st <;> exact fun h => h
end
/-! ### dicts -/
section
variable {st : Store} {Q : V → Store → Prop} {s : Str} {p : Nat} {kvs : List (Key × V)} {v : V}
theorem c_inD (h : st[p]? = some (.dK kvs)) : wv (cmpD .In (.str s) (.ref p) st) Q = Q (.bl (valV kvs (Sum.inr s : Key)).isSome) st := by
  simp only [cmpD, inD, items, h]
  rfl
theorem c_ninD (h : st[p]? = some (.dK kvs)) : wv (cmpD .NotIn (.str s) (.ref p) st) Q = Q (.bl (!(valV kvs (Sum.inr s : Key)).isSome)) st := by
  simp only [cmpD, inD, items, h]
  rfl
theorem i_dict (h : st[p]? = some (.dK kvs)) (hv : valV kvs (Sum.inr s : Key) = some v) : wv (idxD (.ref p) (.str s) st) Q = Q v st := by
  simp only [idxD, h, hv]
  rfl
theorem b_listD (h : st[p]? = some (.dK kvs)) : wv (bifD (.on false) .list [.ref p] st) Q = Q (.ref st.length) (st ++ [.lst (kvs.map fun kv => kV kv.1)]) := by
  simp only [bifD, h]
  rfl
theorem set_dict' (h : st[p]? = some (.dK kvs)) (hl : kvs.length < sz) : setI (.ref p) (.str s) v st = some (st.set p (.dK (putK kvs (Sum.inr s : Key) v))) := by
  simp only [setI, h]
  rw [if_pos hl]
theorem bt_dG (h : st[p]? = some (.dK kvs)) : bmTy .dGet (.ref p) st = true := by simp [bmTy, h]
theorem bt_dP (h : st[p]? = some (.dK kvs)) : bmTy .dPop (.ref p) st = true := by simp [bmTy, h]
theorem bd_dG (h : st[p]? = some (.dK kvs)) : wv (bmD .dGet (.ref p) [.str s] st) Q = Q ((valV kvs (Sum.inr s : Key)).getD .non) st := by
  simp only [bmD, h, keyOf?]
  rfl
theorem bd_dP (h : st[p]? = some (.dK kvs)) (hv : valV kvs (Sum.inr s : Key) = some v) : wv (bmD .dPop (.ref p) [.str s] st) Q = Q v (st.set p (.dK (dropK kvs (Sum.inr s : Key)))) := by
  simp only [bmD, h, keyOf?, hv]
  rfl
theorem bt_lc {xs : List V} (h : st[p]? = some (.lst xs)) : bmTy .lClear (.ref p) st = true := by simp [bmTy, h]
theorem bd_lc {xs : List V} (h : st[p]? = some (.lst xs)) : wv (bmD .lClear (.ref p) [] st) Q = Q .non (st.set p (.lst [])) := by
  simp only [bmD, h]
  rfl
end
/-! ### walks of sequences that stay: a list, a frozen list, a tuple, a text -/
section
variable {Pg : Prog} {Q Rt : V → Store → Prop} {N : Ev → Store → Prop} {st : Store} {env : Ev}
inductive Sk where
  | l | f | t
def Sk.at_ (k : Sk) (st : Store) (p : Nat) (xs : List V) : Prop := match k with
  | .l => st[p]? = some (.lst xs)
  | .f => st[p]? = some (.fro xs)
  | .t => st[p]? = some (.tup xs)
def Sk.ik : Sk → Ik
  | .l => .lstk
  | .f => .lstk
  | .t => .tupk
theorem sk_rk {k : Sk} {p : Nat} {xs : List V} (h : k.at_ st p xs) : rk .seq [.ref p] st = k.ik := by
  cases k <;> simp only [Sk.at_] at h <;> simp [rk, h, Sk.ik]
theorem sk_cur {k : Sk} {p j : Nat} {xs : List V} (h : k.at_ st p xs) : cur k.ik [.ref p] j st = nth xs j fun x => (x, st) := by
  cases k <;> simp only [Sk.at_] at h <;> simp [cur, h, Sk.ik]
theorem sk_turns {k : Sk} {p : Nat} {xs : List V} (h : k.at_ st p xs) : turns k.ik [.ref p] st = xs.length := by
  cases k <;> simp only [Sk.at_] at h <;> simp [turns, items, h, Sk.ik]
theorem one_arg' {P : V → Store → Prop} {r : R} (h : wv r P) : wl r fun vs st1 => ∃ x, vs = [x] ∧ P x st1 := by
  revert h
  cases r with
  | val vs st1 => match vs with
    | [] => exact fun h => h.elim
    | [x] => exact fun h => ⟨x, rfl, h⟩
    | _ :: _ :: _ => exact fun h => h.elim
  | _ => exact fun h => h.elim
/-- for x in a sequence that stays -/
theorem for_sk {cf : Bool → Str → List V → Store → R} {md : Bool} {a b : T} {v p : Nat} {xs : List V} (k : Sk) (Inv : Nat → Ev → Store → Prop) (hp : ∀ j env st, Inv j env st → k.at_ st p xs) (h : wv (run Pg cf a (.on md) env st) fun x st1 => x = .ref p ∧ Inv 0 env st1)
    (hs : ∀ j x env st, xs[j]? = some x → Inv j env st → v < env.length ∧ wz (run Pg cf b (.on md) (env.set v (some x)) st) (Inv (j + 1)) Rt) (he : ∀ env st, Inv xs.length env st → N env st) : wz (run Pg cf (.for (.n v) .seq a b) (.on md) env st) N Rt := by
  rw [z_for]
  refine (one_arg' h).imp ?_
  rintro vs st1 ⟨x, rfl, rfl, h0⟩
  have e1 := hp _ _ _ h0
  rw [sk_rk e1]
  have et : turns .seq [.ref p] st1 = turns k.ik [.ref p] st1 := by cases k <;> rfl
  rw [et]
  refine loop_w Inv (n := xs.length) ?_ ?_ xs.length 0 _ env st1 (by omega) (by rw [sk_turns e1]; omega) h0
  · intro j env st hj hI
    obtain ⟨hv, h1⟩ := hs j xs[j] env st (List.getElem?_eq_getElem hj) hI
    refine ⟨xs[j], st, ?_, ?_⟩
    · rw [sk_cur (hp _ _ _ hI)]
      simp [nth, List.getElem?_eq_getElem hj]
    · rw [bdT_n hv]
      exact h1
  · intro env st hI
    refine ⟨?_, he env st hI⟩
    rw [sk_cur (hp _ _ _ hI)]
    simp [nth]
/-- what a comprehension's turn does: a test, the element -/
def bdL1 (tg : Tg) (env0 : Ev) (t ev : Ev → Store → R) (x : V) (st : Store) : R := match setTg tg x env0 st with
  | none => .stk
  | some env2 => (t env2 st).bs fun bs st3 => match bs with
    | [] => (ev env2 st3).b1 fun v st4 => .val [v] st4
    | [b] => match truth b st3 with
      | some true => (ev env2 st3).b1 fun v st4 => .val [v] st4
      | some false => .val [] st3
      | none => .stk
    | _ => .stk
theorem w_lc {cf : Bool → Str → List V → Store → R} {md : Bool} {tg : Tg} {k : Ik} {own : List Nat} {a t e : T} : wv (run Pg cf (.lc own tg k a t e) (.on md) env st) Q = wl (run Pg cf a (.on md) env st) fun vs st1 => (∃ o, cur (rk k vs st1) vs 0 st1 = some o) ∧ wv (lcN (cur (rk k vs st1) vs) (bdL1 tg (wipe env own) (run Pg cf t (.on md)) (run Pg cf e (.on md))) st1.length (turns k vs st1 + 1) 0 (st1 ++ [.lst []])) Q := by
  have e1 : run Pg cf (.lc own tg k a t e) (.on md) env st = (run Pg cf a (.on md) env st).bs fun vs st1 => match cur (rk k vs st1) vs 0 st1 with
    | none => .stk
    | some _ => lcN (cur (rk k vs st1) vs) (bdL1 tg (wipe env own) (run Pg cf t (.on md)) (run Pg cf e (.on md))) st1.length (turns k vs st1 + 1) 0 (st1 ++ [.lst []]) := rfl
  rw [e1, wv_bs]
  congr 1
  funext vs st1
  cases cur (rk k vs st1) vs 0 st1 with
  | none => exact propext ⟨fun h => h.elim, fun ⟨⟨_, h⟩, _⟩ => nomatch h⟩
  | some o => simp
/-- a turn of [e for .. if t] -/
theorem turn_if {cf : Bool → Str → List V → Store → R} {md : Bool} {v D : Nat} {t e : T} {x : V} {acc : List V} {Inv Inv' : List V → Store → Prop} (hv : v < env.length)
    (h : wv (run Pg cf t (.on md) (env.set v (some x)) st) fun b st1 => tr (truth b st1) (wv (run Pg cf e (.on md) (env.set v (some x)) st1) fun y st2 => st2[D]? = some (.lst acc) ∧ acc.length < sz ∧ Inv (acc ++ [y]) (st2.set D (.lst (acc ++ [y])))) (Inv acc st1)) :
    wl (bdL1 (.n v) env (run Pg cf (.som t) (.on md)) (run Pg cf e (.on md)) x st) fun ys st2 => (ys = [] ∧ Inv acc st2) ∨ ∃ y, ys = [y] ∧ st2[D]? = some (.lst acc) ∧ acc.length < sz ∧ Inv (acc ++ [y]) (st2.set D (.lst (acc ++ [y]))) := by
  unfold bdL1
  rw [setN hv]
  dsimp only
  rw [wl_bs, w_som]
  refine h.imp fun b st1 h1 => ?_
  dsimp only
  revert h1
  cases truth b st1 with
  | none => exact fun h => h.elim
  | some k =>
    cases k with
    | true =>
      intro h1
      dsimp only
      rw [wl_b1]
      exact wv.imp h1 fun y st2 h2 => .inr ⟨y, rfl, h2⟩
    | false => exact fun h1 => .inl ⟨rfl, h1⟩
theorem turn_0 {cf : Bool → Str → List V → Store → R} {md : Bool} {v D : Nat} {e : T} {x : V} {acc : List V} {Inv : List V → Store → Prop} (hv : v < env.length)
    (h : wv (run Pg cf e (.on md) (env.set v (some x)) st) fun y st2 => st2[D]? = some (.lst acc) ∧ acc.length < sz ∧ Inv (acc ++ [y]) (st2.set D (.lst (acc ++ [y])))) :
    wl (bdL1 (.n v) env (run Pg cf .nil (.on md)) (run Pg cf e (.on md)) x st) fun ys st2 => (ys = [] ∧ Inv acc st2) ∨ ∃ y, ys = [y] ∧ st2[D]? = some (.lst acc) ∧ acc.length < sz ∧ Inv (acc ++ [y]) (st2.set D (.lst (acc ++ [y]))) := by
  unfold bdL1
  rw [setN hv]
  dsimp only
  rw [wl_bs, w_nil]
  dsimp only
  rw [wl_b1]
  exact h.imp fun y st2 h2 => .inr ⟨y, rfl, h2⟩
/-- [e for x in xs (if t)], a sequence that stays; a turn by turn_if, turn_0 -/
theorem lc_sk {cf : Bool → Str → List V → Store → R} {md : Bool} {a t e : T} {v p : Nat} {xs : List V} {own : List Nat} (k : Sk) (Inv : Nat → List V → Store → Prop) (D : Nat) (hp : ∀ j acc st, Inv j acc st → k.at_ st p xs)
    (h : wv (run Pg cf a (.on md) env st) fun x st1 => x = .ref p ∧ k.at_ st1 p xs ∧ D = st1.length ∧ Inv 0 [] (st1 ++ [.lst []]))
    (hs : ∀ j x acc st, xs[j]? = some x → Inv j acc st → wl (bdL1 (.n v) (wipe env own) (run Pg cf t (.on md)) (run Pg cf e (.on md)) x st) fun ys st2 => (ys = [] ∧ Inv (j + 1) acc st2) ∨ ∃ y, ys = [y] ∧ st2[D]? = some (.lst acc) ∧ acc.length < sz ∧ Inv (j + 1) (acc ++ [y]) (st2.set D (.lst (acc ++ [y])))) (he : ∀ acc st, Inv xs.length acc st → Q (.ref D) st) :
    wv (run Pg cf (.lc own (.n v) .seq a t e) (.on md) env st) Q := by
  rw [w_lc]
  refine (one_arg' h).imp ?_
  rintro vs st1 ⟨x, rfl, rfl, e1, rfl, h0⟩
  rw [sk_rk e1]
  refine ⟨?_, ?_⟩
  · rw [sk_cur e1]
    simp only [nth]
    split
    · exact ⟨_, rfl⟩
    · exact ⟨_, rfl⟩
  have et : turns .seq [.ref p] st1 = turns k.ik [.ref p] st1 := by cases k <;> rfl
  rw [et]
  refine lc_w Inv (n := xs.length) ?_ ?_ xs.length 0 _ [] _ (Nat.zero_add _) (by rw [sk_turns e1]; omega) h0
  · intro j acc st hj hI
    refine ⟨xs[j], st, ?_, hs j xs[j] acc st (List.getElem?_eq_getElem hj) hI⟩
    rw [sk_cur (hp _ _ _ hI)]
    simp [nth, List.getElem?_eq_getElem hj]
  · intro acc st hI
    refine ⟨?_, he acc st hI⟩
    rw [sk_cur (hp _ _ _ hI)]
    simp [nth]
/-- [e for c in a text] -/
theorem lc_str {cf : Bool → Str → List V → Store → R} {md : Bool} {a t e : T} {v : Nat} {s : Str} {own : List Nat} (Inv : Nat → List V → Store → Prop) (D : Nat)
    (h : wv (run Pg cf a (.on md) env st) fun x st1 => x = .str s ∧ D = st1.length ∧ Inv 0 [] (st1 ++ [.lst []]))
    (hs : ∀ j c acc st, s.cps.toList[j]? = some c → Inv j acc st → wl (bdL1 (.n v) (wipe env own) (run Pg cf t (.on md)) (run Pg cf e (.on md)) (.str ⟨#[c]⟩) st) fun ys st2 => (ys = [] ∧ Inv (j + 1) acc st2) ∨ ∃ y, ys = [y] ∧ st2[D]? = some (.lst acc) ∧ acc.length < sz ∧ Inv (j + 1) (acc ++ [y]) (st2.set D (.lst (acc ++ [y])))) (he : ∀ acc st, Inv s.cps.toList.length acc st → Q (.ref D) st) :
    wv (run Pg cf (.lc own (.n v) .seq a t e) (.on md) env st) Q := by
  rw [w_lc]
  refine (one_arg' h).imp ?_
  rintro vs st1 ⟨x, rfl, rfl, rfl, h0⟩
  have ek : rk .seq [.str s] st1 = .strk := by simp [rk]
  rw [ek]
  have ec : ∀ j st, cur .strk [.str s] j st = nth s.cps.toList j fun c => (.str ⟨#[c]⟩, st) := fun j st => by simp [cur]
  refine ⟨?_, ?_⟩
  · rw [ec]
    simp only [nth]
    split
    · exact ⟨_, rfl⟩
    · exact ⟨_, rfl⟩
  refine lc_w Inv (n := s.cps.toList.length) ?_ ?_ s.cps.toList.length 0 _ [] _ (Nat.zero_add _) (by simp [turns, Str.length]) h0
  · intro j acc st hj hI
    refine ⟨.str ⟨#[s.cps.toList[j]]⟩, st, ?_, hs j _ acc st (List.getElem?_eq_getElem hj) hI⟩
    rw [ec]
    simp only [nth, List.getElem?_eq_getElem hj]
  · intro acc st hI
    refine ⟨?_, he acc st hI⟩
    rw [ec]
    simp [nth]
theorem lc_str0 {cf : Bool → Str → List V → Store → R} {md : Bool} {a e : T} {v : Nat} {s : Str} {own : List Nat} (Inv : Nat → List V → Store → Prop) (D : Nat) (hv : v < (wipe env own).length)
    (h : wv (run Pg cf a (.on md) env st) fun x st1 => x = .str s ∧ D = st1.length ∧ Inv 0 [] (st1 ++ [.lst []]))
    (hs : ∀ j c acc st, s.cps.toList[j]? = some c → Inv j acc st → wv (run Pg cf e (.on md) ((wipe env own).set v (some (.str ⟨#[c]⟩))) st) fun y st2 => st2[D]? = some (.lst acc) ∧ acc.length < sz ∧ Inv (j + 1) (acc ++ [y]) (st2.set D (.lst (acc ++ [y])))) (he : ∀ acc st, Inv s.cps.toList.length acc st → Q (.ref D) st) :
    wv (run Pg cf (.lc own (.n v) .seq a .nil e) (.on md) env st) Q :=
  lc_str Inv D h (fun j c acc st hc hI => turn_0 (Inv := Inv (j + 1)) hv (hs j c acc st hc hI)) he
theorem lc_sk0 {cf : Bool → Str → List V → Store → R} {md : Bool} {a e : T} {v p : Nat} {xs : List V} {own : List Nat} (k : Sk) (Inv : Nat → List V → Store → Prop) (D : Nat) (hv : v < (wipe env own).length) (hp : ∀ j acc st, Inv j acc st → k.at_ st p xs)
    (h : wv (run Pg cf a (.on md) env st) fun x st1 => x = .ref p ∧ k.at_ st1 p xs ∧ D = st1.length ∧ Inv 0 [] (st1 ++ [.lst []]))
    (hs : ∀ j x acc st, xs[j]? = some x → Inv j acc st → wv (run Pg cf e (.on md) ((wipe env own).set v (some x)) st) fun y st2 => st2[D]? = some (.lst acc) ∧ acc.length < sz ∧ Inv (j + 1) (acc ++ [y]) (st2.set D (.lst (acc ++ [y])))) (he : ∀ acc st, Inv xs.length acc st → Q (.ref D) st) :
    wv (run Pg cf (.lc own (.n v) .seq a .nil e) (.on md) env st) Q :=
  lc_sk k Inv D hp h (fun j x acc st hc hI => turn_0 (Inv := Inv (j + 1)) hv (hs j x acc st hc hI)) he
theorem lc_sk1 {cf : Bool → Str → List V → Store → R} {md : Bool} {a t e : T} {v p : Nat} {xs : List V} {own : List Nat} (k : Sk) (Inv : Nat → List V → Store → Prop) (D : Nat) (hv : v < (wipe env own).length) (hp : ∀ j acc st, Inv j acc st → k.at_ st p xs)
    (h : wv (run Pg cf a (.on md) env st) fun x st1 => x = .ref p ∧ k.at_ st1 p xs ∧ D = st1.length ∧ Inv 0 [] (st1 ++ [.lst []]))
    (hs : ∀ j x acc st, xs[j]? = some x → Inv j acc st → wv (run Pg cf t (.on md) ((wipe env own).set v (some x)) st) fun b st1 => tr (truth b st1) (wv (run Pg cf e (.on md) ((wipe env own).set v (some x)) st1) fun y st2 => st2[D]? = some (.lst acc) ∧ acc.length < sz ∧ Inv (j + 1) (acc ++ [y]) (st2.set D (.lst (acc ++ [y])))) (Inv (j + 1) acc st1)) (he : ∀ acc st, Inv xs.length acc st → Q (.ref D) st) :
    wv (run Pg cf (.lc own (.n v) .seq a (.som t) e) (.on md) env st) Q :=
  lc_sk k Inv D hp h (fun j x acc st hc hI => turn_if (Inv := Inv (j + 1)) (Inv' := Inv (j + 1)) hv (hs j x acc st hc hI)) he
end
end Mi
set_option maxHeartbeats 400000
/-! Mv: stores, lists, data: what the plain laws share. -/
namespace Mi
open PySem PySem.Spec PyProof.Rows L2
variable {Q Rt : V → Store → Prop} {st : Store} {d : Nat}
theorem atI_nn {α : Type} {xs : List α} {k : Int} (h0 : 0 ≤ k) (h : k < xs.length) : ∃ v, atI xs k = some v ∧ xs[k.toNat]? = some v := by
  have hl : k.toNat < xs.length := by omega
  refine ⟨xs[k.toNat], ?_, List.getElem?_eq_getElem hl⟩
  unfold atI ixN
  rw [if_pos h0, if_pos h]
  exact List.getElem?_eq_getElem hl
theorem get_pre {α : Type} {a b : List α} (h : a <+: b) {i : Nat} {x : α} (e : a[i]? = some x) : b[i]? = some x := by
  obtain ⟨l, rfl⟩ := h
  rw [List.getElem?_append_left (List.getElem?_eq_some_iff.mp e).1]
  exact e
theorem get_new {α : Type} {a : List α} {x : α} : (a ++ [x])[a.length]? = some x := by simp
theorem o_addNew {xs ys : List V} (h : xs.length + ys.length ≤ sz) : wv (binD .Add (.ref st.length) (.ref (st ++ [Mi.IO.lst xs]).length) (st ++ [Mi.IO.lst xs] ++ [Mi.IO.lst ys])) Q = Q (.ref (st ++ [Mi.IO.lst xs] ++ [Mi.IO.lst ys]).length) (st ++ [Mi.IO.lst xs] ++ [Mi.IO.lst ys] ++ [Mi.IO.lst (xs ++ ys)]) :=
  o_addL (get_pre (List.prefix_append _ _) get_new) get_new h
theorem szl {n : Nat} (h : n ≤ 16777216) : n ≤ sz := h
theorem at0 {x : V} {xs : List V} : atI (x :: xs) 0 = some x := by
  unfold atI ixN
  rw [if_pos (by decide), if_pos (by simp)]
  rfl
theorem at1 {x y : V} {xs : List V} : atI (x :: y :: xs) 1 = some y := by
  unfold atI ixN
  rw [if_pos (by decide), if_pos (by simp; omega)]
  rfl
theorem at2 {x y z : V} {xs : List V} : atI (x :: y :: z :: xs) 2 = some z := by
  unfold atI ixN
  rw [if_pos (by decide), if_pos (by simp; omega)]
  rfl
theorem ty_tup {p : Nat} {xs : List V} (h : st[p]? = some (.tup xs)) : isTy (.ref p) st = some .tuple := by simp [isTy, h]
theorem ty_lst {p : Nat} {xs : List V} (h : st[p]? = some (.lst xs)) : isTy (.ref p) st = some .list := by simp [isTy, h]
theorem ty_str {s : Str} : isTy (.str s) st = some .str := rfl
theorem ty_int {i : Int} : isTy (.int i) st = some .int := rfl
theorem sub_1 : subTy .tuple .tuple = true := rfl
theorem sub_2 : subTy .str .str = true := rfl
theorem sub_3 : subTy .int .int = true := rfl
theorem sub_4 : subTy .int .bool = false := rfl
theorem sub_5 : subTy .list .list = true := rfl
theorem in_ok' {x : V} {p : Nat} {xs : List V} (h : items st (.ref p) = some xs) (hf : (flatV x && xs.all flatV) = true) : wv (cmpD .In x (.ref p) st) Q = Q (.bl (inV x xs)) st := by
  simp only [cmpD, inD, h, hf, if_true]
  rfl
theorem set_new {α : Type} {a : List α} {x y : α} : (a ++ [x]).set a.length y = a ++ [y] := by simp
theorem bt_lst {p : Nat} {xs : List V} (h : st[p]? = some (.lst xs)) : bmTy .lAppend (.ref p) st = true := by simp [bmTy, h]
theorem bd_app {p : Nat} {xs : List V} {y : V} (h : st[p]? = some (.lst xs)) (hl : xs.length < sz) : wv (bmD .lAppend (.ref p) [y] st) Q = Q .non (st.set p (.lst (xs ++ [y]))) := by
  simp only [bmD, h]
  rw [if_pos hl]
  rfl
theorem pre_set {a b : Store} {i : Nat} {x : Mi.IO} (h : a <+: b) (hi : a.length ≤ i) : a <+: b.set i x := by
  obtain ⟨l, rfl⟩ := h
  rw [List.set_append_right _ _ hi]
  exact List.prefix_append _ _
theorem get_set {a : Store} {i j : Nat} {xs ys : List V} {o : Mi.IO} (hi : a[i]? = some (.lst xs)) (hj : a[j]? = some o) (hne : ∀ zs, o ≠ .lst zs) : (a.set i (.lst ys))[j]? = some o := by
  rw [List.getElem?_set_ne]
  · exact hj
  · intro e
    subst e
    rw [hi] at hj
    exact hne xs (Option.some.inj hj).symm
theorem get_set_self {a : Store} {i : Nat} {xs : List V} {o : Mi.IO} (hi : a[i]? = some (.lst xs)) : (a.set i o)[i]? = some o := List.getElem?_set_self (List.getElem?_eq_some_iff.mp hi).1
theorem take_snoc {α : Type} {l : List α} {j : Nat} {x : α} (h : l[j]? = some x) : l.take (j + 1) = l.take j ++ [x] := by
  rw [List.take_add_one, h]
  rfl
theorem s_fro {p : Nat} {xs : List V} {l h : Option Int} (e : st[p]? = some (.fro xs)) : wv (slcD (.ref p) l h st) Q = Q (.ref st.length) (st ++ [.lst (cutV xs l h)]) := by
  simp only [slcD, e]
  rfl
theorem part1 {i : Int} : Mi.part [V.int i] = some (some i) := rfl
def Dat (k : Nat) (st : Store) (v : V) : Prop := ∃ x, toD k st v = some x ∧ x.canLay0 = true ∧ x.depth ≤ k
theorem mapM_dat {k : Nat} : ∀ {xs : List V}, (∀ x ∈ xs, Dat k st x) → ∃ ds, xs.mapM (toD k st) = some ds ∧ PyData.canLayAll0 ds = true ∧ PyData.depthAll ds ≤ k
  | [], _ => ⟨[], rfl, rfl, Nat.zero_le _⟩
  | x :: xs, h => by
    obtain ⟨d1, e1, c1, p1⟩ := h x (List.mem_cons_self ..)
    obtain ⟨ds, e2, c2, p2⟩ := mapM_dat fun y hy => h y (List.mem_cons_of_mem _ hy)
    refine ⟨d1 :: ds, ?_, ?_, ?_⟩
    · rw [List.mapM_cons, e1, e2]
      rfl
    · simp only [PyData.canLayAll0, c1, c2, Bool.and_self]
    · simp only [PyData.depthAll]
      omega
theorem dat_int {k : Nat} {i : Int} : Dat k st (.int i) := ⟨.int i, by cases k <;> rfl, rfl, Nat.zero_le _⟩
theorem dat_str {k : Nat} {s : Str} (h : PyData.canLay0 (.str s) = true) : Dat k st (.str s) := ⟨.str s, by cases k <;> rfl, h, Nat.zero_le _⟩
theorem dat_lst {k p : Nat} {xs : List V} (hp : st[p]? = some (.lst xs)) (h : ∀ x ∈ xs, Dat k st x) : Dat (k + 1) st (.ref p) := by
  obtain ⟨ds, e, c, q⟩ := mapM_dat h
  refine ⟨.list ds, ?_, ?_, ?_⟩
  · simp only [toD, hp, e]
    rfl
  · simp only [PyData.canLay0, c]
  · simp only [PyData.depth]
    omega
theorem dat_tup {k p : Nat} {xs : List V} (hp : st[p]? = some (.tup xs)) (h : ∀ x ∈ xs, Dat k st x) : Dat (k + 1) st (.ref p) := by
  obtain ⟨ds, e, c, q⟩ := mapM_dat h
  refine ⟨.tuple ds, ?_, ?_, ?_⟩
  · simp only [toD, hp, e]
    rfl
  · simp only [PyData.canLay0, c]
  · simp only [PyData.depth]
    omega
theorem paired_left {α β : Type} {F : α → β → Prop} : ∀ {xs : List α} {ys : List β}, Paired F xs ys → ∀ x ∈ xs, ∃ y ∈ ys, F x y
  | _, _, .nil, x, h => nomatch h
  | _, _, .cons (a := a) (b := b) f r, x, h => by
    rcases List.mem_cons.mp h with rfl | h
    · exact ⟨b, List.mem_cons_self .., f⟩
    · obtain ⟨y, hy, g⟩ := paired_left r x h
      exact ⟨y, List.mem_cons_of_mem _ hy, g⟩
theorem mapM_same {f : V → Option PyData} : ∀ {xs ys : List V}, Paired (fun a b => f a = f b) xs ys → xs.mapM f = ys.mapM f
  | _, _, .nil => rfl
  | _, _, .cons f r => by rw [List.mapM_cons, List.mapM_cons, f, mapM_same r]
theorem c_neD {p q : Nat} {x : PyData} (h1 : toD 60 st (.ref p) = some x) (h2 : toD 60 st (.ref q) = some x) (hc : x.canLay0 = true) (hd : x.depth ≤ 60) : wv (cmpD .NotEq (.ref p) (.ref q) st) Q = Q (.bl false) st := by
  have hs : SeqAt.shaped x = true := by
    unfold SeqAt.shaped
    rw [hc, decide_eq_true (by omega)]
    rfl
  have e : eqD (.ref p) (.ref q) st = some true := by
    unfold eqD
    simp only [scal]
    rw [h1, h2]
    simp only [hs, Bool.and_self, if_true]
    rw [PySem.SeqAt.eqv_refl x hc]
    rfl
  simp only [cmpD, e]
  rfl
theorem allB_rep : ∀ n : Nat, Mi.allB (List.replicate n (V.bl true)) = some (List.replicate n true)
  | 0 => rfl
  | n + 1 => by
    rw [List.replicate_succ, List.replicate_succ, Mi.allB, allB_rep n]
    rfl
theorem b_all {p n : Nat} (h : st[p]? = some (.lst (List.replicate n (V.bl true)))) : wv (bifD (.on md) .all [.ref p] st) Q = Q (.bl true) st := by
  have e : (List.replicate n true).all id = true := by simp
  simp only [bifD, h, allB_rep, e]
  rfl
theorem paired_comp {α β γ : Type} {F : α → β → Prop} {G : β → γ → Prop} {H : α → γ → Prop} (h : ∀ a b c, F a b → G b c → H a c) : ∀ {xs : List α} {ys : List β} {zs : List γ}, Paired F xs ys → Paired G ys zs → Paired H xs zs
  | _, _, _, .nil, .nil => .nil
  | _, _, _, .cons f r, .cons g q => .cons (h _ _ _ f g) (paired_comp h r q)
theorem sub_b : subTy .bool .bool = true := rfl
theorem ty_bl {b : Bool} : isTy (.bl b) st = some .bool := rfl
theorem s_lst {p : Nat} {xs : List V} {l h : Option Int} (e : st[p]? = some (.lst xs)) : wv (slcD (.ref p) l h st) Q = Q (.ref st.length) (st ++ [Mi.IO.lst (cutV xs l h)]) := by
  simp only [slcD, e]
  rfl
theorem tr_lst {p : Nat} {xs : List V} {A B : Prop} (h : st[p]? = some (.lst xs)) : tr (truth (.ref p) st) A B = ((xs ≠ [] → A) ∧ (xs = [] → B)) := by
  simp only [truth, h]
  cases xs <;> simp [tr]
theorem cut_tail {xs : List V} : cutV xs (some 1) none = xs.drop 1 := by
  have e : HT.sIx xs.length 0 (some 1) = min 1 xs.length := HT.sIx_nat _ _ 1
  unfold cutV
  rw [e]
  show (xs.drop (min 1 xs.length)).take (xs.length - min 1 xs.length) = _
  cases xs with
  | nil => rfl
  | cons x xs =>
    have : min 1 (x :: xs).length = 1 := by simp
    rw [this]
    apply List.take_of_length_le
    simp
theorem inV_str {s : Str} {xs : List Str} : inV (.str s) (xs.map V.str) = decide (s ∈ xs) := by
  unfold inV
  induction xs with
  | nil => rfl
  | cons x xs ih =>
    rw [List.map_cons, List.any_cons, ih]
    show ((x == s) || decide (s ∈ xs)) = _
    by_cases e : x = s
    · subst e
      simp
    · have : ¬ s = x := fun h => e h.symm
      simp [e, this]
theorem flat_str {s : Str} {xs : List Str} : (flatV (.str s) && (xs.map V.str).all flatV) = true := by
  have : (xs.map V.str).all flatV = true := by
    induction xs with
    | nil => rfl
    | cons x xs ih => rw [List.map_cons, List.all_cons, ih]; rfl
  rw [this]
  rfl
end Mi
set_option maxHeartbeats 400000
/-! Mx: stores that change at told places alone. -/
namespace Mi
open PySem PySem.Spec PyProof.Rows L2
variable {Q Rt : V → Store → Prop} {st st' st'' : Store} {d : Nat} {S S' : Nat → Prop}
/-- st' is st but at S, and what is new -/
def Ext (S : Nat → Prop) (st st' : Store) : Prop := st.length ≤ st'.length ∧ ∀ i, i < st.length → ¬ S i → st'[i]? = st[i]?
theorem Ext.refl : Ext S st st := ⟨Nat.le_refl _, fun _ _ _ => rfl⟩
theorem Ext.of (h : st <+: st') : Ext S st st' := by
  obtain ⟨l, rfl⟩ := h
  refine ⟨by simp, fun i hi _ => List.getElem?_append_left hi⟩
theorem Ext.trans (h : Ext S st st') (g : Ext S st' st'') : Ext S st st'' := ⟨Nat.le_trans h.1 g.1, fun i hi hs => (g.2 i (Nat.lt_of_lt_of_le hi h.1) hs).trans (h.2 i hi hs)⟩
theorem Ext.mono (h : Ext S st st') (g : ∀ i, i < st.length → S i → S' i) : Ext S' st st' := ⟨h.1, fun i hi hs => h.2 i hi fun q => hs (g i hi q)⟩
theorem Ext.late (h : Ext S st st') (g : Ext S' st' st'') (hs : ∀ i, i < st.length → S' i → S i) : Ext S st st'' := ⟨Nat.le_trans h.1 g.1, fun i hi hn => (g.2 i (Nat.lt_of_lt_of_le hi h.1) fun q => hn (hs i hi q)).trans (h.2 i hi hn)⟩
theorem Ext.snoc {o : Mi.IO} : Ext S st (st ++ [o]) := .of (List.prefix_append _ _)
theorem Ext.set {i : Nat} {o : Mi.IO} (h : Ext S st st') (hi : S i ∨ st.length ≤ i) : Ext S st (st'.set i o) := ⟨by rw [List.length_set]; exact h.1, fun j hj hs => by
  rw [List.getElem?_set_ne]
  · exact h.2 j hj hs
  · intro e
    subst e
    rcases hi with hi | hi
    · exact hs hi
    · omega⟩
theorem lt_of_get {α : Type} {l : List α} {i : Nat} {x : α} (h : l[i]? = some x) : i < l.length := (List.getElem?_eq_some_iff.mp h).1
theorem Ext.get (h : Ext S st st') {i : Nat} {o : Mi.IO} (e : st[i]? = some o) (hs : ¬ S i) : st'[i]? = some o := by
  rw [h.2 i (lt_of_get e) hs]
  exact e
theorem get_set_self' {i : Nat} {o : Mi.IO} (h : i < st.length) : (st.set i o)[i]? = some o := List.getElem?_set_self h
theorem get_set_ne {i j : Nat} {o o' : Mi.IO} (e : st[j]? = some o) (h : j ≠ i) : (st.set i o')[j]? = some o := by
  rw [List.getElem?_set_ne (Ne.symm h)]
  exact e
/-- a list of texts that stays but at S -/
def LsX (S : Nat → Prop) (st : Store) (v : V) (xs : List Str) : Prop := ∃ p, v = .ref p ∧ ¬ S p ∧ st[p]? = some (.lst (xs.map V.str))
theorem LsX.ext {v : V} {xs : List Str} (g : Ext S st st') : LsX S st v xs → LsX S st' v xs := fun ⟨p, e, n, q⟩ => ⟨p, e, n, g.get q n⟩
theorem LsX.mono {v : V} {xs : List Str} (h : ∀ i, i < st.length → S i → S' i) : LsX S' st v xs → LsX S st v xs := fun ⟨p, e, n, q⟩ => ⟨p, e, fun z => n (h p (lt_of_get q) z), q⟩
theorem paired_ext {α : Type} {F : Store → V → α → Prop} (hF : ∀ v x, F st v x → F st' v x) {vs : List V} {xs : List α} (h : Paired (F st) vs xs) : Paired (F st') vs xs := Paired.mono hF h
/-- a dict by names -/
def kvOf (l : List (Str × V)) : List (Key × V) := l.map fun p => (Sum.inr p.1, p.2)
def lkS : List (Str × V) → Str → Option V
  | [], _ => none
  | p :: r, s => if p.1 = s then some p.2 else lkS r s
theorem val_kvOf {s : Str} : ∀ {l : List (Str × V)}, valV (kvOf l) (Sum.inr s : Key) = lkS l s
  | [] => rfl
  | p :: r => by
    unfold lkS
    by_cases e : p.1 = s
    · rw [if_pos e]
      exact valV_pos (show (Sum.inr p.1 : Key) = Sum.inr s by rw [e])
    · rw [if_neg e, ← val_kvOf (l := r)]
      exact valV_neg fun h => e (Sum.inr.inj h)
theorem kvOf_keys {l : List (Str × V)} : (kvOf l).map (fun kv => kV kv.1) = (l.map (·.1)).map V.str := by
  unfold kvOf
  rw [List.map_map, List.map_map]
  rfl
theorem kvOf_len {l : List (Str × V)} : (kvOf l).length = l.length := by
  unfold kvOf
  rw [List.length_map]
theorem put_new {l : List (Str × V)} {s : Str} {v : V} (h : lkS l s = none) : putK (kvOf l) (Sum.inr s : Key) v = kvOf (l ++ [(s, v)]) := by
  unfold putK
  rw [valV_any, val_kvOf, h]
  simp [kvOf]
theorem lk_none {s : Str} : ∀ {l : List (Str × V)}, s ∉ l.map (·.1) → lkS l s = none
  | [], _ => rfl
  | p :: r, h => by
    unfold lkS
    have h1 : ¬ p.1 = s := fun e => h (by rw [List.map_cons, e]; exact List.mem_cons_self ..)
    rw [if_neg h1]
    exact lk_none fun g => h (by rw [List.map_cons]; exact List.mem_cons_of_mem _ g)
theorem lk_at {s : Str} {v : V} : ∀ {l : List (Str × V)} {i : Nat}, (l.map (·.1)).Nodup → l[i]? = some (s, v) → lkS l s = some v
  | [], i, _, h => by simp at h
  | p :: r, 0, _, h => by
    have : p = (s, v) := Option.some.inj h
    subst this
    simp [lkS]
  | p :: r, i + 1, hn, h => by
    have hn : (p.1 :: r.map (·.1)).Nodup := hn
    obtain ⟨n1, n2⟩ := List.nodup_cons.mp hn
    have hr : r[i]? = some (s, v) := h
    have hne : ¬ p.1 = s := fun e => n1 (by rw [e]; exact List.mem_map.mpr ⟨_, List.mem_of_getElem? hr, rfl⟩)
    unfold lkS
    rw [if_neg hne]
    exact lk_at n2 hr
theorem lstOf_at {p : Nat} {xs : List V} (h : st[p]? = some (.lst xs)) : lstOf st (.ref p) = some xs := by simp [lstOf, h]
theorem allS_map : ∀ bs : List Str, allS (bs.map V.str) = some bs
  | [] => rfl
  | b :: bs => by
    rw [List.map_cons, allS, allS_map bs]
    rfl
theorem str_ne_non {s : Str} : (V.str s = V.non) = False := eq_false fun h => nomatch h
theorem ref_ne_non {i : Nat} : (V.ref i = V.non) = False := eq_false fun h => nomatch h
theorem putF_len {f : Str} {v : V} : ∀ {fs : List (Str × V)}, (putF f v fs).length ≤ fs.length + 1
  | [] => Nat.le_refl _
  | p :: r => by
    unfold putF
    split
    · simp
    · rw [List.length_cons, List.length_cons]
      exact Nat.succ_le_succ putF_len
theorem putF_lt {f : Str} {v : V} {fs : List (Str × V)} {n : Nat} (h : fs.length < n) : (putF f v fs).length < n + 1 := by
  have := putF_len (f := f) (v := v) (fs := fs)
  omega
end Mi
set_option maxHeartbeats 400000
/-! Mz: runs that may end in an exception, by what must follow. -/
namespace Mi
open PySem PySem.Spec PyProof.Rows L2
abbrev EP := Str → List (Str × V) → Store → Prop
def xv (r : R) (Q : V → Store → Prop) (E : EP) : Prop := match r with
  | .val [v] st => Q v st
  | .exc c fs _ st => E c fs st
  | _ => False
def xl (r : R) (Q : List V → Store → Prop) (E : EP) : Prop := match r with
  | .val vs st => Q vs st
  | .exc c fs _ st => E c fs st
  | _ => False
def xz (r : R) (N : Ev → Store → Prop) (Rt : V → Store → Prop) (E : Str → List (Str × V) → Ev → Store → Prop) : Prop := match r with
  | .nxt e st => N e st
  | .ret v st => Rt v st
  | .exc c fs e st => E c fs e st
  | _ => False
section
variable {r : R} {Q Q' Rt Rt' : V → Store → Prop} {QL QL' : List V → Store → Prop} {N N' : Ev → Store → Prop} {E E' : EP} {EE EE' : Str → List (Str × V) → Ev → Store → Prop} {st : Store} {env : Ev} {v : V} {A B : Prop}
theorem xv.imp (h : xv r Q E) (g : ∀ v st, Q v st → Q' v st) (g2 : ∀ c fs st, E c fs st → E' c fs st) : xv r Q' E' := by
  unfold xv at h ⊢
  split at h
  · exact g _ _ h
  · exact g2 _ _ _ h
  · exact h.elim
theorem xl.imp (h : xl r QL E) (g : ∀ v st, QL v st → QL' v st) (g2 : ∀ c fs st, E c fs st → E' c fs st) : xl r QL' E' := by
  unfold xl at h ⊢
  split at h
  · exact g _ _ h
  · exact g2 _ _ _ h
  · exact h.elim
theorem xz.imp (h : xz r N Rt EE) (g1 : ∀ e st, N e st → N' e st) (g2 : ∀ v st, Rt v st → Rt' v st) (g3 : ∀ c fs e st, EE c fs e st → EE' c fs e st) : xz r N' Rt' EE' := by
  unfold xz at h ⊢
  split at h
  · exact g1 _ _ h
  · exact g2 _ _ h
  · exact g3 _ _ _ _ h
  · exact h.elim
theorem wv.x (h : wv r Q) : xv r Q E := by
  unfold wv at h
  unfold xv
  split at h
  · exact h
  · exact h.elim
theorem wl.x (h : wl r QL) : xl r QL E := by
  unfold wl at h
  unfold xl
  split at h
  · exact h
  · exact h.elim
theorem wz.x (h : wz r N Rt) : xz r N Rt EE := by
  unfold wz at h
  unfold xz
  split at h
  · exact h
  · exact h
  · exact h.elim
theorem xv.w (h : xv r Q E) (n : ∀ c fs st, ¬ E c fs st) : wv r Q := by
  unfold xv at h
  unfold wv
  split at h
  · exact h
  · exact (n _ _ _ h).elim
  · exact h.elim
theorem xz.w (h : xz r N Rt EE) (n : ∀ c fs e st, ¬ EE c fs e st) : wz r N Rt := by
  unfold xz at h
  unfold wz
  split at h
  · exact h
  · exact h
  · exact (n _ _ _ _ h).elim
  · exact h.elim
theorem xv_b1 {k : V → Store → R} : xv (r.b1 k) Q E = xv r (fun v st => xv (k v st) Q E) E := by
  cases r with
  | val vs st => match vs with
    | [] => rfl
    | [_] => rfl
    | _ :: _ :: _ => rfl
  | _ => rfl
theorem xv_bs {k : List V → Store → R} : xv (r.bs k) Q E = xl r (fun v st => xv (k v st) Q E) E := by
  cases r <;> rfl
theorem xl_b1 {k : V → Store → R} : xl (r.b1 k) QL E = xv r (fun v st => xl (k v st) QL E) E := by
  cases r with
  | val vs st => match vs with
    | [] => rfl
    | [_] => rfl
    | _ :: _ :: _ => rfl
  | _ => rfl
theorem xl_bs {k : List V → Store → R} : xl (r.bs k) QL E = xl r (fun v st => xl (k v st) QL E) E := by
  cases r <;> rfl
theorem xv_exE : xv (exE r env) Q E = xv r Q E := by cases r <;> rfl
theorem xl_exE : xl (exE r env) QL E = xl r QL E := by cases r <;> rfl
theorem xz_bn {k : Ev → Store → R} : xz (r.bn k) N Rt EE = xz r (fun e st => xz (k e st) N Rt EE) Rt EE := by
  cases r <;> rfl
/-- an expression, then a statement's end -/
theorem xz_b1 {k : V → Store → R} (h : xv r (fun v st => xz (k v st) N Rt EE) (fun c fs st => EE c fs env st)) : xz ((exE r env).b1 k) N Rt EE := by
  cases r with
  | val vs st => match vs, h with
    | [], h => exact h
    | [_], h => exact h
    | _ :: _ :: _, h => exact h
  | exc c fs e st => exact h
  | _ => exact h
theorem xz_bs {k : List V → Store → R} (h : xl r (fun v st => xz (k v st) N Rt EE) (fun c fs st => EE c fs env st)) : xz ((exE r env).bs k) N Rt EE := by
  cases r <;> exact h
theorem xz_tr {o : Option Bool} {r1 r2 : R} : xz (match o with
    | none => .stk
    | some true => r1
    | some false => r2) N Rt EE = tr o (xz r1 N Rt EE) (xz r2 N Rt EE) := by
  cases o with
  | none => rfl
  | some b => cases b <;> rfl
theorem xv_tr {o : Option Bool} {r1 r2 : R} : xv (match o with
    | none => .stk
    | some true => r1
    | some false => r2) Q E = tr o (xv r1 Q E) (xv r2 Q E) := by
  cases o with
  | none => rfl
  | some b => cases b <;> rfl
end
section
variable {Pg : Prog} {cf : Bool → Str → List V → Store → R} {md : Bool} {mo : Mo} {env : Ev} {st : Store} {Q Rt : V → Store → Prop} {QL : List V → Store → Prop} {N : Ev → Store → Prop} {E : EP} {EE : Str → List (Str × V) → Ev → Store → Prop} {a b c e i o as ifs lo hi s1 s2 oe : T} {n : Nat} {v : V} {x f m c1 c2 : Str}
theorem xz_don : xz (run Pg cf .don mo env st) N Rt EE = N env st := propext Iff.rfl
theorem xz_seq : xz (run Pg cf (.seq a b) mo env st) N Rt EE = xz (run Pg cf a mo env st) (fun e1 st1 => xz (run Pg cf b mo e1 st1) N Rt EE) Rt EE := by
  simp only [run, xz_bn]
theorem x_asgN (h : xv (run Pg cf e mo env st) (fun v st1 => n < env.length ∧ N (env.set n (some v)) st1) (fun c fs st => EE c fs env st)) : xz (run Pg cf (.asgN n e) mo env st) N Rt EE := by
  simp only [run]
  refine xz_b1 (h.imp (fun v st1 ⟨h1, h2⟩ => ?_) fun _ _ _ z => z)
  rw [if_pos h1]
  exact h2
theorem x_drop (h : xv (run Pg cf e mo env st) (fun _ st1 => N env st1) (fun c fs st => EE c fs env st)) : xz (run Pg cf (.drop e) mo env st) N Rt EE := by
  simp only [run]
  exact xz_b1 h
theorem x_ret (h : xv (run Pg cf e mo env st) Rt (fun c fs st => EE c fs env st)) : xz (run Pg cf (.ret e) mo env st) N Rt EE := by
  simp only [run]
  exact xz_b1 h
theorem x_ifs (h : xv (run Pg cf c mo env st) (fun v st1 => tr (truth v st1) (xz (run Pg cf a mo env st1) N Rt EE) (xz (run Pg cf b mo env st1) N Rt EE)) (fun c fs st => EE c fs env st)) : xz (run Pg cf (.ifs c a b) mo env st) N Rt EE := by
  simp only [run]
  refine xz_b1 (h.imp (fun v st1 h => ?_) fun _ _ _ z => z)
  revert h
  cases truth v st1 with
  | none => exact fun h => h
  | some k => cases k <;> exact fun h => h
theorem x_asgT {is : List Nat} (h : xv (run Pg cf e (.on md) env st) (fun v st1 => ∃ e1, setTg (.t is) v env st1 = some e1 ∧ N e1 st1) (fun c fs st => EE c fs env st)) : xz (run Pg cf (.asgT is e) (.on md) env st) N Rt EE := by
  simp only [run, moq, if_true]
  refine xz_b1 (h.imp (fun v st1 ⟨e1, h1, h2⟩ => ?_) fun _ _ _ z => z)
  rw [h1]
  exact h2
theorem x_raiM : xz (run Pg cf (.raiM x) (.on false) env st) N Rt EE = EE x [] env st := by
  simp only [run, if_true]
  rfl
theorem x_rai (hk : Pg.exk x = some (some f)) (h : xv (run Pg cf a (.on false) env st) (fun v st1 => EE x [(f, v)] env st1) (fun c fs st => EE c fs env st)) : xz (run Pg cf (.rai x a) (.on false) env st) N Rt EE := by
  simp only [run, if_true, hk]
  exact xz_b1 h
theorem x_raiF {p : Nat} {c0 : Str} {f0 : List (Str × V)} (hk : Pg.exk x = some (some f)) (hb : Pg.bad x = true) (hi : env[n]? = some (some (.ref p))) (h : xv (run Pg cf a (.on true) env st) (fun v st1 => st1[p]? = some (.exc c0 f0) ∧ EE x [(f, v)] env st1) (fun c fs st => EE c fs env st)) : xz (run Pg cf (.raiF x a n) (.on true) env st) N Rt EE := by
  simp only [run, if_true, hk, hi]
  refine xz_b1 (h.imp (fun v st1 ⟨h1, h2⟩ => ?_) fun _ _ _ z => z)
  rw [h1, hb]
  exact h2
theorem xv_call : xv (run Pg cf (.call x as) (.on md) env st) Q E = xl (run Pg cf as (.on md) env st) (fun xs st1 => xv (cf md x xs st1) Q E) E := by
  simp only [run, cfm_on, xv_bs, xv_exE]
theorem xl_nil : xl (run Pg cf .nil mo env st) QL E = QL [] st := propext Iff.rfl
theorem xl_cons : xl (run Pg cf (.cons a as) mo env st) QL E = xv (run Pg cf a mo env st) (fun x st1 => xl (run Pg cf as mo env st1) (fun xs st2 => QL (x :: xs) st2) E) E := by
  simp only [run, xl_b1, xl_bs]
  rfl
theorem x_meth (h : wv (run Pg cf o (.on md) env st) fun x st1 => ∃ p c fs f, x = .ref p ∧ st1[p]? = some (.ins c fs) ∧ fs.lookup m = none ∧ Pg.meth c m = some f ∧ xl (run Pg cf as (.on md) env st1) (fun xs st2 => xv (cf md f (.ref p :: xs) st2) Q E) E) : xv (run Pg cf (.meth m o as) (.on md) env st) Q E := by
  simp only [run, cfm_on, xv_b1]
  refine (wv.x h).imp (fun x st1 ⟨p, c, fs, f, e1, e2, e3, e4, h⟩ => ?_) fun _ _ _ z => z
  subst e1
  simp only [e2, e3, e4, Option.isNone, if_true, xv_bs, xv_exE]
  exact h
theorem callN_x {d : Nat} {F : Fn} {vs : List V} (hf : Pg.fn f = some F) (hl : vs.length = F.ps.length) (h : xz (run Pg (callN Pg d) F.body (.on md) (start F.N vs) st) (fun _ st' => Q .non st') Q (fun c fs _ st' => E c fs st')) : xv (callN Pg (d + 1) md f vs st) Q E := by
  show xv (match Pg.fn f with
    | none => Mi.R.stk
    | some F => _) Q E
  rw [hf]
  dsimp only
  rw [if_pos ⟨by omega, by omega⟩, hl, show F.ps.length + F.dfl.length - F.ps.length = F.dfl.length from by omega, List.drop_length, List.append_nil]
  revert h
  cases run Pg (callN Pg d) F.body (.on md) (start F.N vs) st <;> exact fun h => h
theorem callN_xd {d : Nat} {F : Fn} {vs ws : List V} (hf : Pg.fn f = some F) (hl : vs.length ≤ F.ps.length ∧ F.ps.length ≤ vs.length + F.dfl.length) (hw : vs ++ F.dfl.drop (vs.length + F.dfl.length - F.ps.length) = ws)
    (h : xz (run Pg (callN Pg d) F.body (.on md) (start F.N ws) st) (fun _ st' => Q .non st') Q (fun c fs _ st' => E c fs st')) : xv (callN Pg (d + 1) md f vs st) Q E := by
  show xv (match Pg.fn f with
    | none => Mi.R.stk
    | some F => _) Q E
  rw [hf]
  dsimp only
  rw [if_pos hl, hw]
  revert h
  cases run Pg (callN Pg d) F.body (.on md) (start F.N ws) st <;> exact fun h => h
theorem whl_x {c b : Ev → Store → R} (Inv : Nat → Ev → Store → Prop) (hs : ∀ k env st, Inv k env st → xv (c env st) (fun v st1 => tr (truth v st1) (xz (b env st1) (fun e2 st2 => ∃ k', k' < k ∧ Inv k' e2 st2) Rt EE) (N env st1)) (fun c fs st => EE c fs env st)) :
    ∀ (m k : Nat) (env : Ev) (st : Store), k < m → Inv k env st → xz (whlN (fun env st => exE (c env st) env) b m env st) N Rt EE
  | 0, k, _, _, h, _ => absurd h (by omega)
  | m + 1, k, env, st, h, hI => by
    unfold whlN
    refine xz_b1 ((hs k env st hI).imp (fun v st1 h1 => ?_) fun _ _ _ z => z)
    revert h1
    cases truth v st1 with
    | none => exact fun h => h
    | some b => cases b with
      | false => exact fun h => h
      | true =>
        intro h1
        show xz (R.bn _ _) N Rt EE
        rw [xz_bn]
        exact xz.imp h1 (fun e2 st2 ⟨k', hk, hI'⟩ => whl_x Inv hs m k' e2 st2 (by omega) hI') (fun _ _ h => h) fun _ _ _ _ h => h
theorem x_whl (Inv : Nat → Ev → Store → Prop) {k : Nat} (hk : k < 1000000) (h0 : Inv k env st)
    (hs : ∀ k env st, Inv k env st → xv (run Pg cf c mo env st) (fun v st1 => tr (truth v st1) (xz (run Pg cf b mo env st1) (fun e2 st2 => ∃ k', k' < k ∧ Inv k' e2 st2) Rt EE) (N env st1)) (fun c fs st => EE c fs env st)) : xz (run Pg cf (.whl c b) mo env st) N Rt EE := by
  simp only [run]
  exact whl_x Inv hs wBound k env st hk h0
/-! ### try -/
/-- an except suite is run -/
def suiX (Pg : Prog) (f : Mo → Ev → Store → R) (n : Option Nat) (c : Str) (fs : List (Str × V)) (e : Ev) (st : Store) (N : Ev → Store → Prop) (Rt : V → Store → Prop) (EE : Str → List (Str × V) → Ev → Store → Prop) : Prop :=
  xz (f (if Pg.bad c then .ine else .on true) (setO e n (.ref st.length)) (st ++ [.exc c fs])) (fun e2 st2 => N (wipeO e2 n) (st2.set st.length .dead)) (fun v st2 => Rt v (st2.set st.length .dead)) (fun c2 fs2 e2 st2 => EE c2 fs2 (wipeO e2 n) (st2.set st.length .dead))
theorem suiX_ok {f : Mo → Ev → Store → R} {n : Option Nat} {c : Str} {fs : List (Str × V)} (h : suiX Pg f n c fs env st N Rt EE) : xz (suiR Pg f n c fs env st) N Rt EE := by
  unfold suiX at h
  unfold suiR
  revert h
  cases f (if Pg.bad c then .ine else .on true) (setO env n (.ref st.length)) (st ++ [.exc c fs]) <;> exact fun h => h
theorem x_tri {n1 : Option Nat} {o2 : Option (Str × Option Nat)} (h : xz (run Pg cf b (.on false) env st) (fun e1 st1 => xz (run Pg cf oe (.on false) e1 st1) N Rt EE) Rt (fun c fs e1 st1 =>
      (Pg.sub c c1 = some true ∧ suiX Pg (fun m => run Pg cf s1 m) n1 c fs e1 st1 N Rt EE) ∨ (Pg.sub c c1 = some false ∧ ((o2 = none ∧ EE c fs e1 st1) ∨ ∃ c2 n2, o2 = some (c2, n2) ∧
        ((Pg.sub c c2 = some true ∧ suiX Pg (fun m => run Pg cf s2 m) n2 c fs e1 st1 N Rt EE) ∨ (Pg.sub c c2 = some false ∧ EE c fs e1 st1)))))) : xz (run Pg cf (.tri b c1 n1 s1 o2 s2 oe) (.on false) env st) N Rt EE := by
  simp only [run, if_true]
  revert h
  cases run Pg cf b (.on false) env st with
  | nxt e1 st1 => exact fun h => h
  | ret v st1 => exact fun h => h
  | val vs st1 => exact fun h => h
  | stk => exact fun h => h
  | exc c fs e1 st1 =>
    intro h
    unfold triR
    dsimp only
    rcases h with ⟨h1, h2⟩ | ⟨h1, ⟨h2, h3⟩ | ⟨c2, n2, h2, ⟨h3, h4⟩ | ⟨h3, h4⟩⟩⟩
    · rw [h1]
      exact suiX_ok h2
    · rw [h1, h2]
      exact h3
    · rw [h1, h2]
      dsimp only
      rw [h3]
      exact suiX_ok h4
    · rw [h1, h2]
      dsimp only
      rw [h3]
      exact h4
/-- one clause that takes all that is raised; nothing leaves -/
theorem z_tri1 {n1 : Option Nat} (h : xz (run Pg cf b (.on false) env st) (fun e1 st1 => wz (run Pg cf oe (.on false) e1 st1) N Rt) Rt (fun c fs e1 st1 =>
      Pg.sub c c1 = some true ∧ wz (run Pg cf s1 (if Pg.bad c then .ine else .on true) (setO e1 n1 (.ref st1.length)) (st1 ++ [.exc c fs])) (fun e2 st2 => N (wipeO e2 n1) (st2.set st1.length .dead)) (fun v st2 => Rt v (st2.set st1.length .dead)))) : wz (run Pg cf (.tri b c1 n1 s1 none s2 oe) (.on false) env st) N Rt := by
  refine xz.w (EE := fun _ _ _ _ => False) (x_tri (h.imp (fun e1 st1 h => wz.x h) (fun _ _ h => h) fun c fs e1 st1 ⟨h1, h2⟩ => .inl ⟨h1, wz.x h2⟩)) fun _ _ _ _ z => z
theorem w_isc {k : Str} : wv (run Pg cf (.isc a k) mo env st) Q = wv (run Pg cf a mo env st) fun x st1 => ∃ p c fs b, x = .ref p ∧ st1[p]? = some (.exc c fs) ∧ Pg.sub c k = some b ∧ Q (.bl b) st1 := by
  simp only [run, wv_b1]
  congr 1
  funext x st1
  cases x with
  | ref p =>
    dsimp only
    cases h : st1[p]? with
    | none => exact propext ⟨fun h => h.elim, fun ⟨_, _, _, _, e, e2, _⟩ => by cases e; rw [h] at e2; cases e2⟩
    | some ob =>
      cases ob with
      | exc c fs =>
        dsimp only
        cases h2 : Pg.sub c k with
        | none => exact propext ⟨fun h => h.elim, fun ⟨_, _, _, _, e, e2, e3, _⟩ => by cases e; rw [h] at e2; cases e2; rw [h2] at e3; cases e3⟩
        | some b => exact propext ⟨fun q => ⟨p, c, fs, b, rfl, h, h2, q⟩, fun ⟨_, _, _, _, e, e2, e3, q⟩ => by cases e; rw [h] at e2; cases e2; rw [h2] at e3; cases e3; exact q⟩
      | _ => exact propext ⟨fun h => h.elim, fun ⟨_, _, _, _, e, e2, _⟩ => by cases e; rw [h] at e2; cases e2⟩
  | _ => exact propext ⟨fun h => h.elim, fun ⟨_, _, _, _, e, _⟩ => by cases e⟩
theorem w_iscs {ks : List Str} : wv (run Pg cf (.iscs a ks) mo env st) Q = wv (run Pg cf a mo env st) fun x st1 => ∃ p c fs b, x = .ref p ∧ st1[p]? = some (.exc c fs) ∧ subAny Pg c ks = some b ∧ Q (.bl b) st1 := by
  simp only [run, wv_b1]
  congr 1
  funext x st1
  cases x with
  | ref p =>
    dsimp only
    cases h : st1[p]? with
    | none => exact propext ⟨fun h => h.elim, fun ⟨_, _, _, _, e, e2, _⟩ => by cases e; rw [h] at e2; cases e2⟩
    | some ob =>
      cases ob with
      | exc c fs =>
        dsimp only
        cases h2 : subAny Pg c ks with
        | none => exact propext ⟨fun h => h.elim, fun ⟨_, _, _, _, e, e2, e3, _⟩ => by cases e; rw [h] at e2; cases e2; rw [h2] at e3; cases e3⟩
        | some b => exact propext ⟨fun q => ⟨p, c, fs, b, rfl, h, h2, q⟩, fun ⟨_, _, _, _, e, e2, e3, q⟩ => by cases e; rw [h] at e2; cases e2; rw [h2] at e3; cases e3; exact q⟩
      | _ => exact propext ⟨fun h => h.elim, fun ⟨_, _, _, _, e, e2, _⟩ => by cases e; rw [h] at e2; cases e2⟩
  | _ => exact propext ⟨fun h => h.elim, fun ⟨_, _, _, _, e, _⟩ => by cases e⟩
theorem w_fldX : wv (run Pg cf (.fldX o f) mo env st) Q = wv (run Pg cf o mo env st) fun x st1 => ∃ p c fs v, x = .ref p ∧ st1[p]? = some (.exc c fs) ∧ Pg.xfld c f = true ∧ fs.lookup f = some v ∧ Q v st1 := by
  simp only [run, wv_b1]
  congr 1
  funext x st1
  cases x with
  | ref p =>
    dsimp only
    cases h : st1[p]? with
    | none => exact propext ⟨fun h => h.elim, fun ⟨_, _, _, _, e, e2, _⟩ => by cases e; rw [h] at e2; cases e2⟩
    | some ob =>
      cases ob with
      | exc c fs =>
        dsimp only
        cases h2 : Pg.xfld c f with
        | false => exact propext ⟨fun h => h.elim, fun ⟨_, _, _, _, e, e2, e3, _⟩ => by cases e; rw [h] at e2; cases e2; rw [h2] at e3; cases e3⟩
        | true =>
          simp only [if_true]
          cases h3 : fs.lookup f with
          | none => exact propext ⟨fun h => h.elim, fun ⟨_, _, _, _, e, e2, e3, e4, _⟩ => by cases e; rw [h] at e2; cases e2; rw [h3] at e4; cases e4⟩
          | some v => exact propext ⟨fun q => ⟨p, c, fs, v, rfl, h, h2, h3, q⟩, fun ⟨_, _, _, _, e, e2, e3, e4, q⟩ => by cases e; rw [h] at e2; cases e2; rw [h3] at e4; cases e4; exact q⟩
      | _ => exact propext ⟨fun h => h.elim, fun ⟨_, _, _, _, e, e2, _⟩ => by cases e; rw [h] at e2; cases e2⟩
  | _ => exact propext ⟨fun h => h.elim, fun ⟨_, _, _, _, e, _⟩ => by cases e⟩
end
end Mi
set_option maxHeartbeats 400000
/-! My: comprehensions whose turns only lay new objects. -/
namespace Mi
open PySem PySem.Spec PyProof.Rows L2
/-- the store has grown; what stood in it stays, but for the place D -/
abbrev But (D : Nat) (st st' : Store) : Prop := Ext (fun i => i = D) st st'
theorem lt_of_pre {st st' : Store} (h : st <+: st') : st.length ≤ st'.length := h.length_le
section
variable {Pg : Prog} {cf : Bool → Str → List V → Store → R} {md : Bool} {env : Ev} {st : Store} {Q : V → Store → Prop} {a t e : T} {v : Nat} {own : List Nat}
/-- a turn: the test tells b, the element is told by G -/
def TurnP (cf : Bool → Str → List V → Store → R) (Pg : Prog) (md : Bool) (t e : T) (env' : Ev) (b : Bool) (G : Store → V → Prop) (st : Store) : Prop :=
  match t with
  | .som t => wv (run Pg cf t (.on md) env' st) fun x st2 => st <+: st2 ∧ truth x st2 = some b ∧ (b = true → wv (run Pg cf e (.on md) env' st2) fun y st3 => st2 <+: st3 ∧ G st3 y)
  | .nil => b = true ∧ wv (run Pg cf e (.on md) env' st) fun y st3 => st <+: st3 ∧ G st3 y
  | _ => False
theorem turnP_ok {env0 : Ev} {x : V} {b : Bool} {G : Store → V → Prop} (hv : v < env0.length) (h : TurnP cf Pg md t e (env0.set v (some x)) b G st) :
    wl (bdL1 (.n v) env0 (run Pg cf t (.on md)) (run Pg cf e (.on md)) x st) fun ys st2 => st <+: st2 ∧ ((b = false ∧ ys = []) ∨ (b = true ∧ ∃ y, ys = [y] ∧ G st2 y)) := by
  unfold TurnP at h
  unfold bdL1
  rw [setN hv]
  dsimp only
  split at h
  · rename_i t
    rw [wl_bs, w_som]
    refine h.imp fun x st2 ⟨p2, ht, he⟩ => ?_
    dsimp only
    rw [ht]
    cases b with
    | false => exact ⟨p2, .inl ⟨rfl, rfl⟩⟩
    | true =>
      dsimp only
      rw [wl_b1]
      exact (he rfl).imp fun y st3 ⟨p3, g⟩ => ⟨p2.trans p3, .inr ⟨rfl, y, rfl, g⟩⟩
  · obtain ⟨rfl, he⟩ := h
    rw [wl_bs, w_nil]
    dsimp only
    rw [wl_b1]
    exact he.imp fun y st3 ⟨p3, g⟩ => ⟨p3, .inr ⟨rfl, y, rfl, g⟩⟩
  · exact h.elim
/-- the comprehension: n turns; the turn j is told by tb, G -/
theorem lc_gen {k : Ik} (tb : Nat → Bool) (G : Nat → Store → V → Prop) (xf : Nat → V) (n : Nat) (hn : n ≤ 1000000) (hv : v < (L2.wipe env own).length)
    (h : wl (run Pg cf a (.on md) env st) fun vs st1 => (∀ j st2, st1 <+: st2 → cur (rk k vs st1) vs j st2 = if j < n then some (some (xf j, st2)) else some none) ∧ n < turns k vs st1 + 1 ∧
      (∀ j st2, j < n → st1 <+: st2 → st1.length < st2.length → TurnP cf Pg md t e ((L2.wipe env own).set v (some (xf j))) (tb j) (G j) st2) ∧ (∀ j st2 st3 y, j < n → st1 <+: st2 → But st1.length st2 st3 → G j st2 y → G j st3 y) ∧
      ∀ acc st2, st1 <+: st2 → st2[st1.length]? = some (.lst acc) → Paired (fun j y => G j st2 y) ((List.range n).filter tb) acc → Q (.ref st1.length) st2) :
    wv (run Pg cf (.lc own (.n v) k a t e) (.on md) env st) Q := by
  rw [w_lc]
  refine h.imp ?_
  rintro vs st1 ⟨hc, ht, hs, hst, he⟩
  refine ⟨?_, ?_⟩
  · rw [hc 0 st1 (List.prefix_refl _)]
    split
    · exact ⟨_, rfl⟩
    · exact ⟨_, rfl⟩
  refine lc_w (fun j acc st2 => st1 <+: st2 ∧ st2[st1.length]? = some (.lst acc) ∧ Paired (fun j y => G j st2 y ∧ j < n) ((List.range j).filter tb) acc) (n := n) ?_ ?_ n 0 _ [] _ (Nat.zero_add _) ht ⟨List.prefix_append _ _, by simp, .nil⟩
  · rintro j acc st2 hj ⟨p2, hD, hP⟩
    refine ⟨xf j, st2, by rw [hc j st2 p2, if_pos hj], ?_⟩
    refine (turnP_ok hv (hs j st2 hj p2 (lt_of_get hD))).imp ?_
    rintro ys st3 ⟨p3, hh⟩
    have er : List.range (j + 1) = List.range j ++ [j] := List.range_succ
    have hD3 := get_pre p3 hD
    have pb : But st1.length st2 st3 := Ext.of p3
    rcases hh with ⟨hb, rfl⟩ | ⟨hb, y, rfl, g⟩
    · have hP2 : Paired (fun j y => G j st3 y ∧ j < n) ((List.range j).filter tb) acc := Paired.mono (fun j y z => ⟨hst j st2 st3 y z.2 p2 pb z.1, z.2⟩) hP
      refine .inl ⟨rfl, p2.trans p3, hD3, ?_⟩
      rw [er, List.filter_append, List.filter_cons, hb]
      simpa using hP2
    · have hl := Mi.P.length hP
      have hlen : ((List.range j).filter tb).length ≤ j := by
        have := List.length_filter_le tb (List.range j)
        rw [List.length_range] at this
        exact this
      have hsz : (1000000 : Nat) < sz := by decide
      refine .inr ⟨y, rfl, hD3, by omega, pre_set (p2.trans p3) (Nat.le_refl _), get_set_self hD3, ?_⟩
      rw [er, List.filter_append, List.filter_cons, hb]
      simp only [List.filter_nil, if_true]
      have p13 := p2.trans p3
      have sb : But st1.length st3 (st3.set st1.length (.lst (acc ++ [y]))) := (Ext.refl (st := st3)).set (.inl rfl)
      have hP3 : Paired (fun j' y' => G j' (st3.set st1.length (.lst (acc ++ [y]))) y' ∧ j' < n) ((List.range j).filter tb) acc := Paired.mono (fun j y' z => ⟨hst j st3 _ y' z.2 p13 sb (hst j st2 st3 y' z.2 p2 pb z.1), z.2⟩) hP
      exact Mi.P.append hP3 (.cons ⟨hst j st3 _ y hj p13 sb g, hj⟩ .nil)
  · rintro acc st2 ⟨p2, hD, hP⟩
    refine ⟨by rw [hc n st2 p2, if_neg (Nat.lt_irrefl _)], he acc st2 p2 hD (Paired.mono (fun _ _ z => z.1) hP)⟩
/-- over a sequence that stays -/
theorem lc_genS (k : Sk) (tb : Nat → Bool) (G : Nat → Store → V → Prop) (hv : v < (L2.wipe env own).length)
    (h : wv (run Pg cf a (.on md) env st) fun x st1 => ∃ p xs, x = .ref p ∧ k.at_ st1 p xs ∧ xs.length ≤ 1000000 ∧
      (∀ j x st2, xs[j]? = some x → st1 <+: st2 → st1.length < st2.length → TurnP cf Pg md t e ((L2.wipe env own).set v (some x)) (tb j) (G j) st2) ∧ (∀ j st2 st3 y, j < xs.length → st1 <+: st2 → But st1.length st2 st3 → G j st2 y → G j st3 y) ∧
      ∀ acc st2, st1 <+: st2 → st2[st1.length]? = some (.lst acc) → Paired (fun j y => G j st2 y) ((List.range xs.length).filter tb) acc → Q (.ref st1.length) st2) :
    wv (run Pg cf (.lc own (.n v) .seq a t e) (.on md) env st) Q := by
  obtain ⟨x, st1, ea, p, xs, rfl, hk, hl, hs, hst, he⟩ := wv_get h
  refine lc_gen tb G (fun j => xs.getD j .non) xs.length hl hv ?_
  rw [ea]
  show _ ∧ _
  have hpre : ∀ st2, st1 <+: st2 → k.at_ st2 p xs := fun st2 p2 => by cases k <;> exact get_pre p2 hk
  refine ⟨fun j st2 p2 => ?_, ?_, fun j st2 hj p2 l2 => ?_, hst, he⟩
  · rw [sk_rk hk, sk_cur (hpre st2 p2)]
    unfold nth
    by_cases hj : j < xs.length
    · rw [if_pos hj, List.getElem?_eq_getElem hj, List.getD_eq_getElem?_getD, List.getElem?_eq_getElem hj]
      rfl
    · rw [if_neg hj, List.getElem?_eq_none (by omega)]
  · have et : turns .seq [.ref p] st1 = turns k.ik [.ref p] st1 := by cases k <;> rfl
    rw [et, sk_turns hk]
    omega
  · have e2 : xs.getD j .non = xs[j] := by
      rw [List.getD_eq_getElem?_getD, List.getElem?_eq_getElem hj]
      rfl
    rw [e2]
    exact hs j _ st2 (List.getElem?_eq_getElem hj) p2 l2
/-- over range(n) -/
theorem lc_genR (tb : Nat → Bool) (G : Nat → Store → V → Prop) (n : Nat) (hn : n ≤ 1000000) (hv : v < (L2.wipe env own).length)
    (h : wv (run Pg cf a (.on md) env st) fun x st1 => x = .int (n : Int) ∧
      (∀ (j : Nat) st2, j < n → st1 <+: st2 → st1.length < st2.length → TurnP cf Pg md t e ((L2.wipe env own).set v (some (.int (j : Int)))) (tb j) (G j) st2) ∧ (∀ j st2 st3 y, j < n → st1 <+: st2 → But st1.length st2 st3 → G j st2 y → G j st3 y) ∧
      ∀ acc st2, st1 <+: st2 → st2[st1.length]? = some (.lst acc) → Paired (fun j y => G j st2 y) ((List.range n).filter tb) acc → Q (.ref st1.length) st2) :
    wv (run Pg cf (.lc own (.n v) .rng1 (.cons a .nil) t e) (.on md) env st) Q := by
  refine lc_gen tb G (fun j => .int (j : Int)) n hn hv ((one_arg h).imp ?_)
  rintro vs st1 ⟨x, rfl, rfl, hs, hst, he⟩
  have hk : rk .rng1 [V.int (n : Int)] st1 = .rng1 := by simp only [rk]
  rw [hk]
  exact ⟨fun j st2 _ => cur_rng1 (by have : (1000000 : Nat) < 2 ^ 62 := by decide
                                     omega), hm1, hs, hst, he⟩
end
/-- a call whose arguments come to an end -/
theorem x_call {Pg : Prog} {cf : Bool → Str → List V → Store → R} {md : Bool} {env : Ev} {st : Store} {Q : V → Store → Prop} {E : EP} {as : T} {x : Str} (h : wl (run Pg cf as (.on md) env st) fun xs st1 => xv (cf md x xs st1) Q E) : xv (run Pg cf (.call x as) (.on md) env st) Q E := by
  rw [xv_call]
  exact wl.x h
/-- what is told by a function -/
theorem paired_fun {α : Type} {f : α → V} : ∀ {l : List α} {acc : List V}, Paired (fun j y => y = f j) l acc → acc = l.map f
  | _, _, .nil => rfl
  | _, _, .cons h r => by rw [h, paired_fun r]; rfl
theorem map_range_get {α β : Type} {l : List α} {f : Nat → β} {g : α → β} (h : ∀ j x, l[j]? = some x → f j = g x) : (List.range l.length).map f = l.map g := by
  apply List.ext_getElem?
  intro j
  rw [List.getElem?_map, List.getElem?_map]
  by_cases hj : j < l.length
  · rw [List.getElem?_range hj, List.getElem?_eq_getElem hj]
    exact congrArg some (h j _ (List.getElem?_eq_getElem hj))
  · rw [List.getElem?_eq_none (by simpa using hj), List.getElem?_eq_none (by omega)]
    rfl
/-- the places that are taken, the items taken -/
theorem filter_range'_get {α β : Type} {f : Nat → β} {g : α → β} {tb : Nat → Bool} {p : α → Bool} : ∀ {l : List α} {k : Nat}, (∀ j x, l[j]? = some x → tb (k + j) = p x ∧ f (k + j) = g x) → ((List.range' k l.length).filter tb).map f = (l.filter p).map g
  | [], _, _ => rfl
  | x :: l, k, h => by
    have hx := h 0 x rfl
    have hl := filter_range'_get (l := l) (k := k + 1) (f := f) (g := g) (tb := tb) (p := p) fun j y e => by
      have := h (j + 1) y e
      rw [show k + (j + 1) = k + 1 + j by omega] at this
      exact this
    rw [List.length_cons, List.range'_succ, List.filter_cons, List.filter_cons, ← hx.1, Nat.add_zero]
    cases tb k with
    | true =>
      simp only [if_true, List.map_cons, hl]
      rw [← hx.2, Nat.add_zero]
    | false => exact hl
theorem filter_range_get {α β : Type} {f : Nat → β} {g : α → β} {l : List α} {tb : Nat → Bool} {p : α → Bool} (h : ∀ j x, l[j]? = some x → tb j = p x ∧ f j = g x) : ((List.range l.length).filter tb).map f = (l.filter p).map g := by
  rw [List.range_eq_range']
  exact filter_range'_get fun j x e => by
    rw [Nat.zero_add]
    exact h j x e
theorem paired_range' {β : Type} {F : Nat → V → Prop} {G : V → β → Prop} : ∀ {l : List β} {k : Nat} {acc : List V}, Paired F (List.range' k l.length) acc → (∀ j x y, l[j]? = some x → F (k + j) y → G y x) → Paired G acc l
  | [], _, _, .nil, _ => .nil
  | x :: l, k, _, h, g => by
    rw [List.length_cons, List.range'_succ] at h
    cases h with
    | cons h r =>
      refine .cons (g 0 x _ rfl h) (paired_range' r fun j y z e f => g (j + 1) y z e ?_)
      rw [show k + (j + 1) = k + 1 + j by omega]
      exact f
/-- what is told by the place -/
theorem paired_range {β : Type} {F : Nat → V → Prop} {G : V → β → Prop} {l : List β} {acc : List V} (h : Paired F (List.range l.length) acc) (g : ∀ j x y, l[j]? = some x → F j y → G y x) : Paired G acc l := by
  rw [List.range_eq_range'] at h
  exact paired_range' h fun j x y e f => g j x y e (by rwa [Nat.zero_add] at f)
/-! ### lists -/
section
variable {st : Store} {Q : V → Store → Prop}
theorem at_nat {α : Type} {xs : List α} {j : Nat} {x : α} (h : xs[j]? = some x) : atI xs (j : Int) = some x := by
  obtain ⟨v, h1, h2⟩ := atI_nn (xs := xs) (k := (j : Int)) (by omega) (by have := lt_of_get h; omega)
  rw [Int.toNat_natCast, h] at h2
  rw [h1, ← h2]
theorem at_last {α : Type} {xs : List α} {x : α} : atI (xs ++ [x]) (-1) = some x := by
  have hl : (xs ++ [x]).length = xs.length + 1 := by simp
  unfold atI ixN
  rw [hl, if_neg (by decide), if_pos (by omega)]
  show (xs ++ [x])[((-1 : Int) + ((xs.length + 1 : Nat) : Int)).toNat]? = some x
  rw [show ((-1 : Int) + ((xs.length + 1 : Nat) : Int)).toNat = xs.length by omega]
  simp
theorem nin_ok {x : V} {p : Nat} {xs : List V} (h : items st (.ref p) = some xs) (hf : (flatV x && xs.all flatV) = true) : wv (cmpD .NotIn x (.ref p) st) Q = Q (.bl (!inV x xs)) st := by
  simp only [cmpD, inD, h, hf, if_true]
  rfl
theorem sIx_n {n d i : Nat} : HT.sIx n d (some (i : Int)) = min i n := HT.sIx_nat _ _ i
theorem cut_from {xs : List V} {i : Nat} : cutV xs (some (i : Int)) none = xs.drop i := by
  unfold cutV
  rw [sIx_n]
  show (xs.drop (min i xs.length)).take (xs.length - min i xs.length) = _
  by_cases h : i ≤ xs.length
  · rw [Nat.min_eq_left h]
    exact List.take_of_length_le (by rw [List.length_drop]; omega)
  · rw [Nat.min_eq_right (by omega), List.drop_eq_nil_of_le (Nat.le_refl _), List.drop_eq_nil_of_le (by omega)]
    simp
theorem cut_to {xs : List V} {j : Nat} : cutV xs none (some (j : Int)) = xs.take j := by
  unfold cutV
  rw [sIx_n]
  show (xs.drop 0).take (min j xs.length - 0) = _
  rw [List.drop_zero, Nat.sub_zero]
  by_cases h : j ≤ xs.length
  · rw [Nat.min_eq_left h]
  · rw [Nat.min_eq_right (by omega), List.take_of_length_le (Nat.le_refl _), List.take_of_length_le (by omega)]
theorem cut_mid {xs : List V} {i j : Nat} : cutV xs (some (i : Int)) (some (j : Int)) = (xs.take j).drop i := by
  unfold cutV
  rw [sIx_n, sIx_n, List.drop_take]
  by_cases h : i ≤ xs.length
  · rw [show min i xs.length = i from Nat.min_eq_left h]
    by_cases g : j ≤ xs.length
    · rw [show min j xs.length = j from Nat.min_eq_left g]
    · rw [show min j xs.length = xs.length from Nat.min_eq_right (by omega), List.take_of_length_le (by rw [List.length_drop]; omega), List.take_of_length_le (by rw [List.length_drop]; omega)]
  · rw [show min i xs.length = xs.length from Nat.min_eq_right (by omega), List.drop_eq_nil_of_le (Nat.le_refl _), List.drop_eq_nil_of_le (show xs.length ≤ i by omega)]
    simp
theorem eqV_str {a b : Str} : eqV (.str a) (.str b) = decide (a = b) := by
  show (a == b) = _
  by_cases e : a = b
  · subst e; simp
  · simp [e]
/-- the first place of a text -/
theorem idx_str {x : Str} : ∀ {xs : List Str} {n : Nat}, x ∈ xs → ∃ j, idxOf (.str x) (xs.map V.str) n = some (n + j) ∧ xs[j]? = some x ∧ ∀ m y, m < j → xs[m]? = some y → y ≠ x
  | [], n, h => nomatch h
  | y :: ys, n, h => by
    rw [List.map_cons]
    unfold idxOf
    rw [eqV_str]
    by_cases e : y = x
    · rw [decide_eq_true e]
      exact ⟨0, rfl, by rw [e]; rfl, fun m _ hm => absurd hm (Nat.not_lt_zero m)⟩
    · rw [decide_eq_false e]
      have h2 : x ∈ ys := by
        rcases List.mem_cons.mp h with h | h
        · exact absurd h.symm e
        · exact h
      obtain ⟨j, h3, h4, h5⟩ := idx_str (n := n + 1) h2
      refine ⟨j + 1, ?_, h4, fun m z hm hz => ?_⟩
      · simp only [Bool.false_eq_true, if_false]
        rw [h3]
        congr 1
        omega
      · cases m with
        | zero =>
          cases (Option.some.inj hz : y = z)
          exact e
        | succ m => exact h5 m z (by omega) hz
theorem bt_ix {p : Nat} {xs : List V} (h : st[p]? = some (.lst xs)) : bmTy .lIndex (.ref p) st = true := by simp [bmTy, h]
/-- xs.index(x), by what follows -/
theorem bd_ix {p : Nat} {x : Str} {xs : List Str} (h : st[p]? = some (.lst (xs.map V.str))) (hx : x ∈ xs) (hQ : ∀ j, xs[j]? = some x → (∀ m y, m < j → xs[m]? = some y → y ≠ x) → Q (.int (j : Nat)) st) : wv (bmD .lIndex (.ref p) [.str x] st) Q := by
  obtain ⟨j, h1, h2, h3⟩ := idx_str (n := 0) hx
  rw [Nat.zero_add] at h1
  simp only [bmD, lstOf_at h, flat_str, if_true, h1]
  exact hQ j h2 h3
end
end Mi
set_option maxHeartbeats 400000
/-! k03: the plain law, the merging. -/
namespace Mk03
open PySem PySem.Spec PyProof.Rows L2 Mi
variable {Q Rt : V → Store → Prop} {st : Store} {d : Nat} {md : Bool}
theorem fn_stands_behind : D.pg.fn "stands_behind" = some f_stands_behind := by rfl
theorem fn_next_name : D.pg.fn "next_name" = some f_next_name := by rfl
theorem fn_without : D.pg.fn "without" = some f_without := by rfl
theorem fn_merged : D.pg.fn "merged" = some f_merged := by rfl
theorem part0 : Mi.part [] = some none := rfl
/-- a list of names, not the one at X -/
def ListN (X : Nat) (st : Store) (v : V) (xs : List Str) : Prop := ∃ p, v = .ref p ∧ p ≠ X ∧ st[p]? = some (.lst (xs.map V.str))
theorem ListN.pre {X : Nat} {st' : Store} {v : V} {xs : List Str} (h : st <+: st') : ListN X st v xs → ListN X st' v xs := fun ⟨p, e, n, q⟩ => ⟨p, e, n, get_pre h q⟩
theorem ListN.set {X : Nat} {v : V} {xs : List Str} {o : Mi.IO} : ListN X st v xs → ListN X (st.set X o) v xs := fun ⟨p, e, n, q⟩ => ⟨p, e, n, by rw [List.getElem?_set_ne (Ne.symm n)]; exact q⟩
theorem ListN.set2 {X i : Nat} {v : V} {xs : List Str} {o : Mi.IO} (h : ListN X st v xs) (g : ListN i st v xs) : ListN X (st.set i o) v xs := by
  obtain ⟨p, rfl, n, q⟩ := h
  obtain ⟨p', e, n', _⟩ := g
  cases e
  exact ⟨p, rfl, n, by rw [List.getElem?_set_ne (Ne.symm n')]; exact q⟩
def behind (rows : List (List Str)) (name : Str) : Bool := rows.any fun r => decide (name ∈ r.drop 1)
theorem cut_str {xs : List Str} : cutV (xs.map V.str) (some 1) none = (xs.drop 1).map V.str := by
  rw [cut_tail, List.map_drop]
section
variable {r X : Nat} {rv : List V} {rows : List (List Str)}
theorem stands_behind_ok {name : Str} (hr : st[r]? = some (.lst rv)) (hR : Paired (ListN X st) rv rows) (hQ : ∀ st', st <+: st' → Q (.bl (behind rows name)) st') : wv (callN D.pg (d + 1) md "stands_behind" [.ref r, .str name] st) Q := by
  refine callN_w fn_stands_behind rfl ?_
  rw [show f_stands_behind.body = b_stands_behind from rfl, show start f_stands_behind.N [V.ref r, V.str name] = [some (V.ref r), some (V.str name), none] from rfl, b_stands_behind]
  simp only [z_seq, z_ifs, z_asgN, z_ret, z_retN, z_don, z_drop, w_var, w_cst, w_bin, w_not, w_and, w_or, w_cmp, w_ife, w_cons, w_nil, w_som, w_tup, w_lst, w_call, w_bif, w_isi, w_idx, List.getElem?_cons_succ, List.getElem?_cons_zero, Option.some.injEq, exists_eq_left', tr_bl, tr_some, c_eqI, c_neI, c_eqS, c_neS, c_lt, c_le, c_gt, c_ge, c_is, c_isnot, o_add, o_sub, List.set_cons_zero, List.set_cons_succ, List.length_cons, List.length_nil, Nat.reduceAdd, Nat.reduceLT, Nat.zero_add, true_and, decide_eq_true_eq, decide_eq_false_iff_not, Bool.not_eq_true', Bool.not_eq_false', Bool.false_eq_true, Bool.true_eq_false, true_implies, false_implies, and_true, Nat.lt_add_one, reduceCtorEq, decide_true, decide_false, not_false_eq_true, not_true_eq_false]
  refine for_lst (xs := rv) (p := r) (fun j env st' => ∃ x, env = [some (.ref r), some (.str name), x] ∧ st <+: st' ∧ behind (rows.take j) name = false) ?_ ?_ ?_ ?_
  · rintro j env st' ⟨x, _, p1, _⟩
    exact get_pre p1 hr
  · simp only [z_seq, z_ifs, z_asgN, z_ret, z_retN, z_don, z_drop, w_var, w_cst, w_bin, w_not, w_and, w_or, w_cmp, w_ife, w_cons, w_nil, w_som, w_tup, w_lst, w_call, w_bif, w_isi, w_idx, List.getElem?_cons_succ, List.getElem?_cons_zero, Option.some.injEq, exists_eq_left', tr_bl, tr_some, c_eqI, c_neI, c_eqS, c_neS, c_lt, c_le, c_gt, c_ge, c_is, c_isnot, o_add, o_sub, List.set_cons_zero, List.set_cons_succ, List.length_cons, List.length_nil, Nat.reduceAdd, Nat.reduceLT, Nat.zero_add, true_and, decide_eq_true_eq, decide_eq_false_iff_not, Bool.not_eq_true', Bool.not_eq_false', Bool.false_eq_true, Bool.true_eq_false, true_implies, false_implies, and_true, Nat.lt_add_one, reduceCtorEq, decide_true, decide_false, not_false_eq_true, not_true_eq_false]
    exact ⟨none, rfl, List.prefix_refl _, rfl⟩
  · rintro j x env st1 hx ⟨y, rfl, p1, hb⟩
    obtain ⟨row, hrow, hat⟩ := Mi.P.get hR hx
    obtain ⟨p, rfl, _, hp⟩ := hat
    refine ⟨by simp, ?_⟩
    simp only [z_seq, z_ifs, z_asgN, z_ret, z_retN, z_don, z_drop, w_var, w_cst, w_bin, w_not, w_and, w_or, w_cmp, w_ife, w_cons, w_nil, w_som, w_tup, w_lst, w_call, w_bif, w_isi, w_idx, List.getElem?_cons_succ, List.getElem?_cons_zero, Option.some.injEq, exists_eq_left', tr_bl, tr_some, c_eqI, c_neI, c_eqS, c_neS, c_lt, c_le, c_gt, c_ge, c_is, c_isnot, o_add, o_sub, List.set_cons_zero, List.set_cons_succ, List.length_cons, List.length_nil, Nat.reduceAdd, Nat.reduceLT, Nat.zero_add, true_and, decide_eq_true_eq, decide_eq_false_iff_not, Bool.not_eq_true', Bool.not_eq_false', Bool.false_eq_true, Bool.true_eq_false, true_implies, false_implies, and_true, Nat.lt_add_one, reduceCtorEq, decide_true, decide_false, not_false_eq_true, not_true_eq_false, w_slc, part0, part1, s_lst (get_pre p1 hp), cut_str]
    rw [in_ok' (items_lst get_new) flat_str, inV_str]
    simp only [z_seq, z_ifs, z_asgN, z_ret, z_retN, z_don, z_drop, w_var, w_cst, w_bin, w_not, w_and, w_or, w_cmp, w_ife, w_cons, w_nil, w_som, w_tup, w_lst, w_call, w_bif, w_isi, w_idx, List.getElem?_cons_succ, List.getElem?_cons_zero, Option.some.injEq, exists_eq_left', tr_bl, tr_some, c_eqI, c_neI, c_eqS, c_neS, c_lt, c_le, c_gt, c_ge, c_is, c_isnot, o_add, o_sub, List.set_cons_zero, List.set_cons_succ, List.length_cons, List.length_nil, Nat.reduceAdd, Nat.reduceLT, Nat.zero_add, true_and, decide_eq_true_eq, decide_eq_false_iff_not, Bool.not_eq_true', Bool.not_eq_false', Bool.false_eq_true, Bool.true_eq_false, true_implies, false_implies, and_true, Nat.lt_add_one, reduceCtorEq, decide_true, decide_false, not_false_eq_true, not_true_eq_false]
    refine ⟨fun h => ?_, fun h => ?_⟩
    · have : behind rows name = true := by
        unfold behind
        exact List.any_eq_true.mpr ⟨row, List.mem_of_getElem? hrow, decide_eq_true h⟩
      rw [← this]
      exact hQ _ (p1.trans (List.prefix_append _ _))
    · refine ⟨_, rfl, p1.trans (List.prefix_append _ _), ?_⟩
      rw [take_snoc hrow]
      unfold behind at hb ⊢
      rw [List.any_append, hb]
      have h2 : ¬ name ∈ row.tail := by simpa using h
      simp [h2]
  · rintro env st1 ⟨y, rfl, p1, hb⟩
    rw [Mi.P.length hR, List.take_length] at hb
    rw [← hb]
    exact hQ _ p1
/-- the first head that stands behind nobody -/
def nextN (all : List (List Str)) : List (List Str) → Option Str
  | [] => none
  | [] :: rs => nextN all rs
  | (x :: _) :: rs => if behind all x then nextN all rs else some x
def strO : Option Str → V
  | none => .non
  | some x => .str x
theorem next_name_ok (hr : st[r]? = some (.lst rv)) (hR : Paired (ListN X st) rv rows) (hQ : ∀ st', st <+: st' → Q (strO (nextN rows rows)) st') : wv (callN D.pg (d + 2) md "next_name" [.ref r] st) Q := by
  refine callN_w fn_next_name rfl ?_
  rw [show f_next_name.body = b_next_name from rfl, show start f_next_name.N [V.ref r] = [some (V.ref r), none] from rfl, b_next_name]
  simp only [z_seq, z_ifs, z_asgN, z_ret, z_retN, z_don, z_drop, w_var, w_cst, w_bin, w_not, w_and, w_or, w_cmp, w_ife, w_cons, w_nil, w_som, w_tup, w_lst, w_call, w_bif, w_isi, w_idx, List.getElem?_cons_succ, List.getElem?_cons_zero, Option.some.injEq, exists_eq_left', tr_bl, tr_some, c_eqI, c_neI, c_eqS, c_neS, c_lt, c_le, c_gt, c_ge, c_is, c_isnot, o_add, o_sub, List.set_cons_zero, List.set_cons_succ, List.length_cons, List.length_nil, Nat.reduceAdd, Nat.reduceLT, Nat.zero_add, true_and, decide_eq_true_eq, decide_eq_false_iff_not, Bool.not_eq_true', Bool.not_eq_false', Bool.false_eq_true, Bool.true_eq_false, true_implies, false_implies, and_true, Nat.lt_add_one, reduceCtorEq, decide_true, decide_false, not_false_eq_true, not_true_eq_false]
  refine for_lst (xs := rv) (p := r) (fun j env st' => ∃ x, env = [some (.ref r), x] ∧ st <+: st' ∧ nextN rows rows = nextN rows (rows.drop j)) ?_ ?_ ?_ ?_
  · rintro j env st' ⟨x, _, p1, _⟩
    exact get_pre p1 hr
  · simp only [z_seq, z_ifs, z_asgN, z_ret, z_retN, z_don, z_drop, w_var, w_cst, w_bin, w_not, w_and, w_or, w_cmp, w_ife, w_cons, w_nil, w_som, w_tup, w_lst, w_call, w_bif, w_isi, w_idx, List.getElem?_cons_succ, List.getElem?_cons_zero, Option.some.injEq, exists_eq_left', tr_bl, tr_some, c_eqI, c_neI, c_eqS, c_neS, c_lt, c_le, c_gt, c_ge, c_is, c_isnot, o_add, o_sub, List.set_cons_zero, List.set_cons_succ, List.length_cons, List.length_nil, Nat.reduceAdd, Nat.reduceLT, Nat.zero_add, true_and, decide_eq_true_eq, decide_eq_false_iff_not, Bool.not_eq_true', Bool.not_eq_false', Bool.false_eq_true, Bool.true_eq_false, true_implies, false_implies, and_true, Nat.lt_add_one, reduceCtorEq, decide_true, decide_false, not_false_eq_true, not_true_eq_false]
    exact ⟨none, rfl, List.prefix_refl _, rfl⟩
  · rintro j x env st1 hx ⟨y, rfl, p1, hb⟩
    obtain ⟨row, hrow, hat⟩ := Mi.P.get hR hx
    obtain ⟨p, rfl, _, hp⟩ := hat
    have hd : rows.drop j = row :: rows.drop (j + 1) := by
      obtain ⟨hl, e⟩ := List.getElem?_eq_some_iff.mp hrow
      rw [List.drop_eq_getElem_cons hl, e]
    rw [hd] at hb
    have hp1 := get_pre p1 hp
    refine ⟨by simp, ?_⟩
    simp only [z_seq, z_ifs, z_asgN, z_ret, z_retN, z_don, z_drop, w_var, w_cst, w_bin, w_not, w_and, w_or, w_cmp, w_ife, w_cons, w_nil, w_som, w_tup, w_lst, w_call, w_bif, w_isi, w_idx, List.getElem?_cons_succ, List.getElem?_cons_zero, Option.some.injEq, exists_eq_left', tr_bl, tr_some, c_eqI, c_neI, c_eqS, c_neS, c_lt, c_le, c_gt, c_ge, c_is, c_isnot, o_add, o_sub, List.set_cons_zero, List.set_cons_succ, List.length_cons, List.length_nil, Nat.reduceAdd, Nat.reduceLT, Nat.zero_add, true_and, decide_eq_true_eq, decide_eq_false_iff_not, Bool.not_eq_true', Bool.not_eq_false', Bool.false_eq_true, Bool.true_eq_false, true_implies, false_implies, and_true, Nat.lt_add_one, reduceCtorEq, decide_true, decide_false, not_false_eq_true, not_true_eq_false, tr_lst hp1]
    cases row with
    | nil =>
      refine ⟨fun h => absurd rfl h, fun _ => ⟨fun h => absurd rfl h, fun _ => ⟨_, rfl, p1, hb⟩⟩⟩
    | cons a as =>
      refine ⟨fun _ => ?_, fun h => nomatch h⟩
      rw [i_at (items_lst hp1) at0]
      refine stands_behind_ok (get_pre p1 hr) (Paired.mono (fun _ _ => ListN.pre p1) hR) fun st2 p2 => ?_
      have hp2 := get_pre p2 hp1
      simp only [z_seq, z_ifs, z_asgN, z_ret, z_retN, z_don, z_drop, w_var, w_cst, w_bin, w_not, w_and, w_or, w_cmp, w_ife, w_cons, w_nil, w_som, w_tup, w_lst, w_call, w_bif, w_isi, w_idx, List.getElem?_cons_succ, List.getElem?_cons_zero, Option.some.injEq, exists_eq_left', tr_bl, tr_some, c_eqI, c_neI, c_eqS, c_neS, c_lt, c_le, c_gt, c_ge, c_is, c_isnot, o_add, o_sub, List.set_cons_zero, List.set_cons_succ, List.length_cons, List.length_nil, Nat.reduceAdd, Nat.reduceLT, Nat.zero_add, true_and, decide_eq_true_eq, decide_eq_false_iff_not, Bool.not_eq_true', Bool.not_eq_false', Bool.false_eq_true, Bool.true_eq_false, true_implies, false_implies, and_true, Nat.lt_add_one, reduceCtorEq, decide_true, decide_false, not_false_eq_true, not_true_eq_false]
      cases hbb : behind rows a with
      | true =>
        simp only [z_seq, z_ifs, z_asgN, z_ret, z_retN, z_don, z_drop, w_var, w_cst, w_bin, w_not, w_and, w_or, w_cmp, w_ife, w_cons, w_nil, w_som, w_tup, w_lst, w_call, w_bif, w_isi, w_idx, List.getElem?_cons_succ, List.getElem?_cons_zero, Option.some.injEq, exists_eq_left', tr_bl, tr_some, c_eqI, c_neI, c_eqS, c_neS, c_lt, c_le, c_gt, c_ge, c_is, c_isnot, o_add, o_sub, List.set_cons_zero, List.set_cons_succ, List.length_cons, List.length_nil, Nat.reduceAdd, Nat.reduceLT, Nat.zero_add, true_and, decide_eq_true_eq, decide_eq_false_iff_not, Bool.not_eq_true', Bool.not_eq_false', Bool.false_eq_true, Bool.true_eq_false, true_implies, false_implies, and_true, Nat.lt_add_one, reduceCtorEq, decide_true, decide_false, not_false_eq_true, not_true_eq_false]
        refine ⟨_, rfl, p1.trans p2, ?_⟩
        rw [hb]
        simp only [nextN, hbb, if_true]
      | false =>
        simp only [z_seq, z_ifs, z_asgN, z_ret, z_retN, z_don, z_drop, w_var, w_cst, w_bin, w_not, w_and, w_or, w_cmp, w_ife, w_cons, w_nil, w_som, w_tup, w_lst, w_call, w_bif, w_isi, w_idx, List.getElem?_cons_succ, List.getElem?_cons_zero, Option.some.injEq, exists_eq_left', tr_bl, tr_some, c_eqI, c_neI, c_eqS, c_neS, c_lt, c_le, c_gt, c_ge, c_is, c_isnot, o_add, o_sub, List.set_cons_zero, List.set_cons_succ, List.length_cons, List.length_nil, Nat.reduceAdd, Nat.reduceLT, Nat.zero_add, true_and, decide_eq_true_eq, decide_eq_false_iff_not, Bool.not_eq_true', Bool.not_eq_false', Bool.false_eq_true, Bool.true_eq_false, true_implies, false_implies, and_true, Nat.lt_add_one, reduceCtorEq, decide_true, decide_false, not_false_eq_true, not_true_eq_false]
        rw [i_at (items_lst hp2) at0]
        have : nextN rows rows = some a := by
          rw [hb]
          simp [nextN, hbb]
        have e := hQ st2 (p1.trans p2)
        rw [this] at e
        exact e
  · rintro env st1 ⟨y, rfl, p1, hb⟩
    rw [Mi.P.length hR, List.drop_length] at hb
    have e := hQ st1 p1
    rw [hb] at e
    exact e
/-- a name is taken off the heads -/
def offN (name : Str) (row : List Str) : List Str := match row with
  | [] => []
  | x :: xs => if x = name then xs else x :: xs
theorem without_ok {name : Str} (hr : st[r]? = some (.lst rv)) (hR : Paired (ListN X st) rv rows) (hX : X < st.length) (hl : rows.length ≤ 1000) (hQ : ∀ q lv st', st <+: st' → q ≠ X → st'[q]? = some (.lst lv) → Paired (ListN X st') lv (rows.map (offN name)) → Q (.ref q) st') : wv (callN D.pg (d + 1) md "without" [.ref r, .str name] st) Q := by
  have hrl := Mi.P.length hR
  refine callN_w fn_without rfl ?_
  rw [show f_without.body = b_without from rfl, show start f_without.N [V.ref r, V.str name] = [some (V.ref r), some (V.str name), none, none] from rfl, b_without]
  simp only [z_seq, z_ifs, z_asgN, z_ret, z_retN, z_don, z_drop, w_var, w_cst, w_bin, w_not, w_and, w_or, w_cmp, w_ife, w_cons, w_nil, w_som, w_tup, w_lst, w_call, w_bif, w_isi, w_idx, List.getElem?_cons_succ, List.getElem?_cons_zero, Option.some.injEq, exists_eq_left', tr_bl, tr_some, c_eqI, c_neI, c_eqS, c_neS, c_lt, c_le, c_gt, c_ge, c_is, c_isnot, o_add, o_sub, List.set_cons_zero, List.set_cons_succ, List.length_cons, List.length_nil, Nat.reduceAdd, Nat.reduceLT, Nat.zero_add, true_and, decide_eq_true_eq, decide_eq_false_iff_not, Bool.not_eq_true', Bool.not_eq_false', Bool.false_eq_true, Bool.true_eq_false, true_implies, false_implies, and_true, Nat.lt_add_one, reduceCtorEq, decide_true, decide_false, not_false_eq_true, not_true_eq_false]
  refine ⟨szl (by decide), ?_⟩
  refine for_lst (xs := rv) (p := r) (fun j env st' => ∃ x lv, env = [some (.ref r), some (.str name), some (.ref st.length), x] ∧ st <+: st' ∧ st'[st.length]? = some (.lst lv) ∧ Paired (fun v xs => ListN X st' v xs ∧ ListN st.length st' v xs) lv ((rows.take j).map (offN name))) ?_ ?_ ?_ ?_
  · rintro j env st' ⟨x, lv, _, p1, _⟩
    exact get_pre p1 hr
  · simp only [z_seq, z_ifs, z_asgN, z_ret, z_retN, z_don, z_drop, w_var, w_cst, w_bin, w_not, w_and, w_or, w_cmp, w_ife, w_cons, w_nil, w_som, w_tup, w_lst, w_call, w_bif, w_isi, w_idx, List.getElem?_cons_succ, List.getElem?_cons_zero, Option.some.injEq, exists_eq_left', tr_bl, tr_some, c_eqI, c_neI, c_eqS, c_neS, c_lt, c_le, c_gt, c_ge, c_is, c_isnot, o_add, o_sub, List.set_cons_zero, List.set_cons_succ, List.length_cons, List.length_nil, Nat.reduceAdd, Nat.reduceLT, Nat.zero_add, true_and, decide_eq_true_eq, decide_eq_false_iff_not, Bool.not_eq_true', Bool.not_eq_false', Bool.false_eq_true, Bool.true_eq_false, true_implies, false_implies, and_true, Nat.lt_add_one, reduceCtorEq, decide_true, decide_false, not_false_eq_true, not_true_eq_false]
    exact ⟨none, [], rfl, List.prefix_append _ _, get_new, .nil⟩
  · rintro j x env st1 hx ⟨y, lv, rfl, p1, h1, hP⟩
    obtain ⟨row, hrow, hat⟩ := Mi.P.get hR hx
    obtain ⟨p, rfl, hpX, hp⟩ := hat
    have hp1 := get_pre p1 hp
    have hpl := (List.getElem?_eq_some_iff.mp hp).1
    have hll : lv.length < sz := by
      have q := Mi.P.length hP
      rw [List.length_map, List.length_take] at q
      have : 1000 < sz := by decide
      omega
    have h1l := (List.getElem?_eq_some_iff.mp h1).1
    refine ⟨by simp, ?_⟩
    have keep : ∃ x lv', [some (V.ref r), some (V.str name), some (V.ref st.length), some (V.ref p)] = [some (.ref r), some (.str name), some (.ref st.length), x] ∧ st <+: st1.set st.length (.lst (lv ++ [.ref p])) ∧ (st1.set st.length (.lst (lv ++ [.ref p])))[st.length]? = some (.lst lv') ∧ (offN name row = row → Paired (fun v xs => ListN X (st1.set st.length (.lst (lv ++ [.ref p]))) v xs ∧ ListN st.length (st1.set st.length (.lst (lv ++ [.ref p]))) v xs) lv' ((rows.take (j + 1)).map (offN name))) := by
      refine ⟨_, lv ++ [.ref p], rfl, pre_set p1 (Nat.le_refl _), get_set_self h1, fun e => ?_⟩
      rw [take_snoc hrow, List.map_append, List.map_cons, List.map_nil, e]
      refine Mi.P.append (Paired.mono (fun _ _ h => ⟨h.1.set2 h.2, h.2.set⟩) hP) (.cons ⟨ListN.set2 ⟨p, rfl, hpX, hp1⟩ ⟨p, rfl, Nat.ne_of_lt hpl, hp1⟩, ListN.set ⟨p, rfl, Nat.ne_of_lt hpl, hp1⟩⟩ .nil)
    obtain ⟨x', lv', e1, e2, e3, e4⟩ := keep
    simp only [z_seq, z_ifs, z_asgN, z_ret, z_retN, z_don, z_drop, w_var, w_cst, w_bin, w_not, w_and, w_or, w_cmp, w_ife, w_cons, w_nil, w_som, w_tup, w_lst, w_call, w_bif, w_isi, w_idx, List.getElem?_cons_succ, List.getElem?_cons_zero, Option.some.injEq, exists_eq_left', tr_bl, tr_some, c_eqI, c_neI, c_eqS, c_neS, c_lt, c_le, c_gt, c_ge, c_is, c_isnot, o_add, o_sub, List.set_cons_zero, List.set_cons_succ, List.length_cons, List.length_nil, Nat.reduceAdd, Nat.reduceLT, Nat.zero_add, true_and, decide_eq_true_eq, decide_eq_false_iff_not, Bool.not_eq_true', Bool.not_eq_false', Bool.false_eq_true, Bool.true_eq_false, true_implies, false_implies, and_true, Nat.lt_add_one, reduceCtorEq, decide_true, decide_false, not_false_eq_true, not_true_eq_false, z_drop, w_bm, bt_lst h1, tr_lst hp1, w_slc, part0, part1, s_lst hp1, cut_str, bd_app h1 hll]
    cases row with
    | nil => exact ⟨fun h => absurd rfl h, fun _ => ⟨fun h => absurd rfl h, fun _ => ⟨x', lv', e1, e2, e3, e4 rfl⟩⟩⟩
    | cons a as =>
      refine ⟨fun _ => ?_, fun h => nomatch h⟩
      rw [i_at (items_lst hp1) at0]
      simp only [z_seq, z_ifs, z_asgN, z_ret, z_retN, z_don, z_drop, w_var, w_cst, w_bin, w_not, w_and, w_or, w_cmp, w_ife, w_cons, w_nil, w_som, w_tup, w_lst, w_call, w_bif, w_isi, w_idx, List.getElem?_cons_succ, List.getElem?_cons_zero, Option.some.injEq, exists_eq_left', tr_bl, tr_some, c_eqI, c_neI, c_eqS, c_neS, c_lt, c_le, c_gt, c_ge, c_is, c_isnot, o_add, o_sub, List.set_cons_zero, List.set_cons_succ, List.length_cons, List.length_nil, Nat.reduceAdd, Nat.reduceLT, Nat.zero_add, true_and, decide_eq_true_eq, decide_eq_false_iff_not, Bool.not_eq_true', Bool.not_eq_false', Bool.false_eq_true, Bool.true_eq_false, true_implies, false_implies, and_true, Nat.lt_add_one, reduceCtorEq, decide_true, decide_false, not_false_eq_true, not_true_eq_false, bt_lst h1, s_lst hp1, cut_str, bd_app h1 hll]
      refine ⟨fun h => ?_, fun h => ⟨x', lv', e1, e2, e3, e4 (by simp [offN, h])⟩⟩
      have h2 : (st1 ++ [Mi.IO.lst ((List.drop 1 (a :: as)).map V.str)])[st.length]? = some (.lst lv) := get_pre (List.prefix_append _ _) h1
      rw [bd_app h2 hll]
      refine ⟨_, _, rfl, pre_set (p1.trans (List.prefix_append _ _)) (Nat.le_refl _), get_set_self h2, ?_⟩
      rw [take_snoc hrow, List.map_append, List.map_cons, List.map_nil]
      have e : offN name (a :: as) = as := by simp [offN, h]
      rw [e]
      have hXl : X ≠ st1.length := by
        have := p1.length_le
        omega
      refine Mi.P.append (Paired.mono (fun _ _ h => ⟨(h.1.pre (List.prefix_append _ _)).set2 (h.2.pre (List.prefix_append _ _)), (h.2.pre (List.prefix_append _ _)).set⟩) hP) (.cons ⟨ListN.set2 ⟨_, rfl, Ne.symm hXl, get_new⟩ ⟨_, rfl, Nat.ne_of_gt h1l, get_new⟩, ListN.set ⟨_, rfl, Nat.ne_of_gt h1l, get_new⟩⟩ .nil)
  · rintro env st1 ⟨y, lv, rfl, p1, h1, hP⟩
    rw [hrl, List.take_length] at hP
    simp only [z_seq, z_ifs, z_asgN, z_ret, z_retN, z_don, z_drop, w_var, w_cst, w_bin, w_not, w_and, w_or, w_cmp, w_ife, w_cons, w_nil, w_som, w_tup, w_lst, w_call, w_bif, w_isi, w_idx, List.getElem?_cons_succ, List.getElem?_cons_zero, Option.some.injEq, exists_eq_left', tr_bl, tr_some, c_eqI, c_neI, c_eqS, c_neS, c_lt, c_le, c_gt, c_ge, c_is, c_isnot, o_add, o_sub, List.set_cons_zero, List.set_cons_succ, List.length_cons, List.length_nil, Nat.reduceAdd, Nat.reduceLT, Nat.zero_add, true_and, decide_eq_true_eq, decide_eq_false_iff_not, Bool.not_eq_true', Bool.not_eq_false', Bool.false_eq_true, Bool.true_eq_false, true_implies, false_implies, and_true, Nat.lt_add_one, reduceCtorEq, decide_true, decide_false, not_false_eq_true, not_true_eq_false]
    exact hQ _ lv st1 p1 (Nat.ne_of_gt hX) h1 (Paired.mono (fun _ _ h => h.1) hP)
/-- L is what the merging tells -/
def Mg : List (List Str) → List Str → Prop
  | rows, [] => ∀ r ∈ rows, r = []
  | rows, x :: L => nextN rows rows = some x ∧ Mg (rows.map (offN x)) L
theorem nextN_some {all : List (List Str)} {x : Str} : ∀ {rows : List (List Str)}, nextN all rows = some x → ∃ r ∈ rows, r ≠ []
  | [], h => nomatch h
  | [] :: rs, h => by
    obtain ⟨r, hr, hn⟩ := nextN_some (rows := rs) h
    exact ⟨r, List.mem_cons_of_mem _ hr, hn⟩
  | (y :: ys) :: rs, _ => ⟨y :: ys, List.mem_cons_self .., by simp⟩
theorem allB_map : ∀ bs : List Bool, Mi.allB (bs.map V.bl) = some bs
  | [] => rfl
  | b :: bs => by
    rw [List.map_cons, Mi.allB, allB_map bs]
    rfl
theorem b_any {p : Nat} {bs : List Bool} (h : st[p]? = some (.lst (bs.map V.bl))) : wv (bifD (.on md) .any [.ref p] st) Q = Q (.bl (bs.any id)) st := by
  simp only [bifD, moq, if_true, h, allB_map]
  rfl
def lens (rows : List (List Str)) : List Bool := rows.map fun r => decide (0 < (r.length : Int))
theorem lens_any {rows : List (List Str)} : (lens rows).any id = false ↔ ∀ r ∈ rows, r = [] := by
  unfold lens
  rw [List.any_map]
  constructor
  · intro h r hr
    have := List.any_eq_false.mp h r hr
    cases r with
    | nil => rfl
    | cons a as =>
      exfalso
      apply this
      show decide (0 < ((a :: as).length : Int)) = true
      refine decide_eq_true ?_
      simp
  · intro h
    refine List.any_eq_false.mpr fun r hr => ?_
    rw [h r hr]
    decide
end
end Mk03
set_option maxHeartbeats 400000
/-! k03: the plain law, rings. -/
namespace Mk03
open PySem PySem.Spec PyProof.Rows L2 Mi
variable {Q Rt : V → Store → Prop} {st : Store} {d : Nat} {md : Bool}
theorem fn_leaning_to : D.pg.fn "leaning_to" = some f_leaning_to := by rfl
theorem fn_ring_of : D.pg.fn "ring_of" = some f_ring_of := by rfl
abbrev Lean3 : Type := Str × Str × Str
/-- a leaning of the rows -/
def LeanOk (rows : List (List Str)) (labels : List Str) (t : Lean3) : Prop := ∃ (at' : Nat) (tl : List Str), rows[at']? = some (t.1 :: tl) ∧ t.2.1 ∈ tl ∧ labels[at']? = some t.2.2
def TupS (st : Store) (v : V) (t : Lean3) : Prop := ∃ p, v = .ref p ∧ st[p]? = some (.tup [.str t.1, .str t.2.1, .str t.2.2])
theorem TupS.pre {st' : Store} {v : V} {t : Lean3} (h : st <+: st') : TupS st v t → TupS st' v t := fun ⟨p, e, q⟩ => ⟨p, e, get_pre h q⟩
section
variable {r lb X : Nat} {rv : List V} {rows : List (List Str)} {labels : List Str}
theorem leaning_to_ok {name : Str} (hr : st[r]? = some (.lst rv)) (hR : Paired (ListN X st) rv rows) (hlb : st[lb]? = some (.lst (labels.map V.str))) (hll : labels.length = rows.length) (hl : rows.length ≤ 1000) (hb : behind rows name = true)
    (hQ : ∀ st' q t, st <+: st' → st.length ≤ q → t.2.1 = name → LeanOk rows labels t → st'[q]? = some (.tup [.str t.1, .str t.2.1, .str t.2.2]) → Q (.ref q) st') : wv (callN D.pg (d + 1) md "leaning_to" [.ref r, .ref lb, .str name] st) Q := by
  have hrl := Mi.P.length hR
  have hs : (1000 : Nat) < 2 ^ 62 := by decide
  refine callN_w fn_leaning_to rfl ?_
  rw [show f_leaning_to.body = b_leaning_to from rfl, show start f_leaning_to.N [V.ref r, V.ref lb, V.str name] = [some (V.ref r), some (V.ref lb), some (V.str name), none] from rfl, b_leaning_to]
  simp only [z_seq, z_ifs, z_asgN, z_ret, z_retN, z_don, z_drop, w_var, w_cst, w_bin, w_not, w_and, w_or, w_cmp, w_ife, w_cons, w_nil, w_som, w_tup, w_lst, w_call, w_bif, w_isi, w_idx, List.getElem?_cons_succ, List.getElem?_cons_zero, Option.some.injEq, exists_eq_left', tr_bl, tr_some, c_eqI, c_neI, c_eqS, c_neS, c_lt, c_le, c_gt, c_ge, c_is, c_isnot, o_add, o_sub, List.set_cons_zero, List.set_cons_succ, List.length_cons, List.length_nil, Nat.reduceAdd, Nat.reduceLT, Nat.zero_add, true_and, decide_eq_true_eq, decide_eq_false_iff_not, Bool.not_eq_true', Bool.not_eq_false', Bool.false_eq_true, Bool.true_eq_false, true_implies, false_implies, and_true, Nat.lt_add_one, reduceCtorEq, decide_true, decide_false, not_false_eq_true, not_true_eq_false]
  refine for_rng1 (n := rows.length) (fun j env st' => ∃ x, env = [some (.ref r), some (.ref lb), some (.str name), x] ∧ st <+: st' ∧ behind (rows.take j) name = false) (by omega) ?_ ?_ ?_
  · simp only [z_seq, z_ifs, z_asgN, z_ret, z_retN, z_don, z_drop, w_var, w_cst, w_bin, w_not, w_and, w_or, w_cmp, w_ife, w_cons, w_nil, w_som, w_tup, w_lst, w_call, w_bif, w_isi, w_idx, List.getElem?_cons_succ, List.getElem?_cons_zero, Option.some.injEq, exists_eq_left', tr_bl, tr_some, c_eqI, c_neI, c_eqS, c_neS, c_lt, c_le, c_gt, c_ge, c_is, c_isnot, o_add, o_sub, List.set_cons_zero, List.set_cons_succ, List.length_cons, List.length_nil, Nat.reduceAdd, Nat.reduceLT, Nat.zero_add, true_and, decide_eq_true_eq, decide_eq_false_iff_not, Bool.not_eq_true', Bool.not_eq_false', Bool.false_eq_true, Bool.true_eq_false, true_implies, false_implies, and_true, Nat.lt_add_one, reduceCtorEq, decide_true, decide_false, not_false_eq_true, not_true_eq_false, b_len (items_lst hr), hrl]
    exact ⟨none, rfl, List.prefix_refl _, rfl⟩
  · rintro j env st1 hj ⟨x, rfl, p1, hbj⟩
    refine ⟨by simp, ?_⟩
    have hrow := List.getElem?_eq_getElem hj
    have hrv : rv[j]? = some rv[j] := List.getElem?_eq_getElem (by omega)
    obtain ⟨row, hrow', p, ep, _, hp⟩ := Mi.P.get hR hrv
    have er : row = rows[j] := by
      rw [hrow] at hrow'
      exact (Option.some.inj hrow').symm
    have hp1 := get_pre p1 hp
    have hr1 := get_pre p1 hr
    have hlb1 := get_pre p1 hlb
    rw [ep] at hrv
    simp only [z_seq, z_ifs, z_asgN, z_ret, z_retN, z_don, z_drop, w_var, w_cst, w_bin, w_not, w_and, w_or, w_cmp, w_ife, w_cons, w_nil, w_som, w_tup, w_lst, w_call, w_bif, w_isi, w_idx, List.getElem?_cons_succ, List.getElem?_cons_zero, Option.some.injEq, exists_eq_left', tr_bl, tr_some, c_eqI, c_neI, c_eqS, c_neS, c_lt, c_le, c_gt, c_ge, c_is, c_isnot, o_add, o_sub, List.set_cons_zero, List.set_cons_succ, List.length_cons, List.length_nil, Nat.reduceAdd, Nat.reduceLT, Nat.zero_add, true_and, decide_eq_true_eq, decide_eq_false_iff_not, Bool.not_eq_true', Bool.not_eq_false', Bool.false_eq_true, Bool.true_eq_false, true_implies, false_implies, and_true, Nat.lt_add_one, reduceCtorEq, decide_true, decide_false, not_false_eq_true, not_true_eq_false, w_slc, part0, part1, i_at (items_lst hr1) (at_nat hrv), s_lst hp1, cut_str]
    rw [in_ok' (items_lst get_new) flat_str, inV_str]
    have pn : st1 <+: st1 ++ [Mi.IO.lst ((row.drop 1).map V.str)] := List.prefix_append _ _
    have hr2 := get_pre pn hr1
    have hp2 := get_pre pn hp1
    have hlb2 := get_pre pn hlb1
    simp only [z_seq, z_ifs, z_asgN, z_ret, z_retN, z_don, z_drop, w_var, w_cst, w_bin, w_not, w_and, w_or, w_cmp, w_ife, w_cons, w_nil, w_som, w_tup, w_lst, w_call, w_bif, w_isi, w_idx, List.getElem?_cons_succ, List.getElem?_cons_zero, Option.some.injEq, exists_eq_left', tr_bl, tr_some, c_eqI, c_neI, c_eqS, c_neS, c_lt, c_le, c_gt, c_ge, c_is, c_isnot, o_add, o_sub, List.set_cons_zero, List.set_cons_succ, List.length_cons, List.length_nil, Nat.reduceAdd, Nat.reduceLT, Nat.zero_add, true_and, decide_eq_true_eq, decide_eq_false_iff_not, Bool.not_eq_true', Bool.not_eq_false', Bool.false_eq_true, Bool.true_eq_false, true_implies, false_implies, and_true, Nat.lt_add_one, reduceCtorEq, decide_true, decide_false, not_false_eq_true, not_true_eq_false, i_at (items_lst hr2) (at_nat hrv)]
    refine ⟨fun h => ?_, fun h => ?_⟩
    · cases row with
      | nil => simp at h
      | cons a tl =>
        have hlab : labels[j]? = some labels[j] := List.getElem?_eq_getElem (by omega)
        have hlv : (labels.map V.str)[j]? = some (V.str labels[j]) := by rw [List.getElem?_map, hlab]; rfl
        rw [i_at (items_lst hp2) at0]
        simp only [z_seq, z_ifs, z_asgN, z_ret, z_retN, z_don, z_drop, w_var, w_cst, w_bin, w_not, w_and, w_or, w_cmp, w_ife, w_cons, w_nil, w_som, w_tup, w_lst, w_call, w_bif, w_isi, w_idx, List.getElem?_cons_succ, List.getElem?_cons_zero, Option.some.injEq, exists_eq_left', tr_bl, tr_some, c_eqI, c_neI, c_eqS, c_neS, c_lt, c_le, c_gt, c_ge, c_is, c_isnot, o_add, o_sub, List.set_cons_zero, List.set_cons_succ, List.length_cons, List.length_nil, Nat.reduceAdd, Nat.reduceLT, Nat.zero_add, true_and, decide_eq_true_eq, decide_eq_false_iff_not, Bool.not_eq_true', Bool.not_eq_false', Bool.false_eq_true, Bool.true_eq_false, true_implies, false_implies, and_true, Nat.lt_add_one, reduceCtorEq, decide_true, decide_false, not_false_eq_true, not_true_eq_false, i_at (items_lst hlb2) (at_nat hlv)]
        refine ⟨szl (by decide), ?_⟩
        refine hQ _ _ (a, name, labels[j]) ((p1.trans pn).trans (List.prefix_append _ _)) (p1.trans pn).length_le rfl ⟨j, tl, ?_, ?_, hlab⟩ get_new
        · rw [hrow, ← er]
        · simpa using h
    · refine ⟨_, rfl, p1.trans pn, ?_⟩
      rw [take_snoc hrow]
      unfold behind at hbj ⊢
      rw [List.any_append, hbj]
      have h2 : ¬ name ∈ rows[j].tail := by
        rw [← er]
        simpa using h
      simp [h2]
  · rintro env st1 ⟨x, rfl, p1, hbj⟩
    rw [List.take_length, hb] at hbj
    cases hbj
end
end Mk03
set_option maxHeartbeats 400000
/-! k03: the plain law, the ring's walk. -/
namespace Mk03
open PySem PySem.Spec PyProof.Rows L2 Mi
variable {Q Rt : V → Store → Prop} {st : Store} {d : Nat} {md : Bool}
/-- the rows' first names -/
def heads (rows : List (List Str)) : List Str := (rows.filter fun r => decide (r ≠ [])).map fun r => r.headD ""
theorem mem_heads {rows : List (List Str)} {x : Str} {tl : List Str} (h : (x :: tl) ∈ rows) : x ∈ heads rows := by
  unfold heads
  exact List.mem_map.mpr ⟨x :: tl, List.mem_filter.mpr ⟨h, by simp⟩, rfl⟩
theorem of_heads {rows : List (List Str)} {x : Str} (h : x ∈ heads rows) : ∃ tl, (x :: tl) ∈ rows := by
  obtain ⟨r, hr, e⟩ := List.mem_map.mp h
  obtain ⟨h1, h2⟩ := List.mem_filter.mp hr
  cases r with
  | nil => simp at h2
  | cons y tl =>
    have e : y = x := e
    subst e
    exact ⟨tl, h1⟩
theorem nextN_none {all : List (List Str)} {x : Str} {tl : List Str} : ∀ {rows : List (List Str)}, nextN all rows = none → (x :: tl) ∈ rows → behind all x = true
  | [], _, h => nomatch h
  | [] :: rs, hn, h => by
    rcases List.mem_cons.mp h with h | h
    · cases h
    · exact nextN_none (rows := rs) hn h
  | (y :: ys) :: rs, hn, h => by
    unfold nextN at hn
    cases hb : behind all y with
    | false =>
      rw [hb] at hn
      cases hn
    | true =>
      rw [hb] at hn
      rcases List.mem_cons.mp h with h | h
      · cases h
        exact hb
      · exact nextN_none (rows := rs) hn h
theorem heads_len {rows : List (List Str)} : (heads rows).length ≤ rows.length := by
  unfold heads
  rw [List.length_map]
  exact List.length_filter_le _ _
/-- how the walk stands -/
structure Ch (rows : List (List Str)) (labels : List Str) (met : List Str) (walked : List Lean3) (name : Str) : Prop where
  len : walked.length = met.length
  nd : met.Nodup
  hd : ∀ x ∈ met ++ [name], x ∈ heads rows
  at_ : ∀ (j : Nat) (t : Lean3), walked[j]? = some t → LeanOk rows labels t ∧ met[j]? = some t.2.1 ∧ (met ++ [name])[j + 1]? = some t.1
theorem Ch.step {rows : List (List Str)} {labels met : List Str} {walked : List Lean3} {name : Str} {t : Lean3} (c : Ch rows labels met walked name) (hn : name ∉ met) (e : t.2.1 = name) (ht : LeanOk rows labels t) : Ch rows labels (met ++ [name]) (walked ++ [t]) t.1 where
  len := by rw [List.length_append, List.length_append, c.len]; rfl
  nd := by
    rw [List.nodup_append]
    refine ⟨c.nd, by simp, fun a ha b hb => ?_⟩
    have : b = name := by simpa using hb
    subst this
    exact fun z => hn (z ▸ ha)
  hd := fun x hx => by
    rcases List.mem_append.mp hx with hx | hx
    · exact c.hd x hx
    · have : x = t.1 := by simpa using hx
      subst this
      obtain ⟨at', tl, h1, _⟩ := ht
      exact mem_heads (List.mem_of_getElem? h1)
  at_ := fun j u hu => by
    by_cases hj : j < walked.length
    · rw [List.getElem?_append_left hj] at hu
      obtain ⟨h1, h2, h3⟩ := c.at_ j u hu
      refine ⟨h1, get_pre (List.prefix_append _ _) h2, get_pre (List.prefix_append _ _) h3⟩
    · have hj2 : j = walked.length := by
        have := lt_of_get hu
        rw [List.length_append, List.length_singleton] at this
        omega
      subst hj2
      have : t = u := by simpa using hu
      subst this
      refine ⟨ht, ?_, ?_⟩
      · rw [c.len, e]
        exact get_new
      · rw [c.len]
        have : (met ++ [name]).length = met.length + 1 := by simp
        rw [← this]
        exact get_new
/-- a ring of leanings -/
structure RingOk (rows : List (List Str)) (labels : List Str) (ring : List Lean3) : Prop where
  two : 2 ≤ ring.length
  at_ : ∀ (k : Nat) (t : Lean3), ring[k]? = some t → LeanOk rows labels t ∧ ∃ u, ring[(k + 1) % ring.length]? = some u ∧ u.1 = t.2.1
  nd : (ring.map (·.1)).Nodup
theorem get_rev {α : Type} {l : List α} {k : Nat} (h : k < l.length) : l.reverse[k]? = l[l.length - 1 - k]? := List.getElem?_reverse h
theorem Ch.ring {rows : List (List Str)} {labels met : List Str} {walked : List Lean3} {name : Str} {i : Nat} (c : Ch rows labels met walked name) (hr : ∀ r ∈ rows, r.Nodup) (hi : met[i]? = some name) : RingOk rows labels (walked.drop i).reverse := by
  have hil := lt_of_get hi
  have hl : (walked.drop i).reverse.length = met.length - i := by rw [List.length_reverse, List.length_drop, c.len]
  have w_at : ∀ k, k < met.length → ∃ t, walked[k]? = some t := fun k hk => ⟨_, List.getElem?_eq_getElem (by rw [c.len]; exact hk)⟩
  -- what stands at k
  have at' : ∀ k, k < met.length - i → (walked.drop i).reverse[k]? = walked[met.length - 1 - k]? := fun k hk => by
    rw [get_rev (by rw [List.length_drop, c.len]; exact hk), List.length_drop, c.len, List.getElem?_drop]
    congr 1
    omega
  have name_last : (met ++ [name])[met.length]? = some name := get_new
  have two : 2 ≤ met.length - i := by
    refine Decidable.byContradiction fun hn => ?_
    have hi2 : i = met.length - 1 := by omega
    obtain ⟨tw, hw⟩ := w_at i hil
    obtain ⟨⟨at', tl, h1, h2, _⟩, h3, h4⟩ := c.at_ i _ hw
    rw [hi] at h3
    rw [show i + 1 = met.length by omega, name_last] at h4
    have e1 := Option.some.inj h3
    have e2 := Option.some.inj h4
    have := hr _ (List.mem_of_getElem? h1)
    rw [← e2] at this
    rw [← e1] at h2
    exact (List.nodup_cons.mp this).1 h2
  refine ⟨by rw [hl]; exact two, fun k t ht => ?_, ?_⟩
  · have hk := lt_of_get ht
    rw [hl] at hk
    rw [at' k hk] at ht
    obtain ⟨h1, h2, h3⟩ := c.at_ _ t ht
    refine ⟨h1, ?_⟩
    rw [hl]
    by_cases hk2 : k + 1 < met.length - i
    · rw [Nat.mod_eq_of_lt hk2, at' _ hk2]
      obtain ⟨tw, hw⟩ := w_at (met.length - 1 - (k + 1)) (by omega)
      obtain ⟨_, _, g3⟩ := c.at_ _ _ hw
      refine ⟨_, hw, ?_⟩
      rw [show met.length - 1 - (k + 1) + 1 = met.length - 1 - k by omega, List.getElem?_append_left (by omega), h2] at g3
      exact (Option.some.inj g3).symm
    · have hke : k + 1 = met.length - i := by omega
      rw [hke, Nat.mod_self, at' 0 (by omega)]
      obtain ⟨tw, hw⟩ := w_at (met.length - 1 - 0) (by omega)
      obtain ⟨_, _, g3⟩ := c.at_ _ _ hw
      refine ⟨_, hw, ?_⟩
      rw [show met.length - 1 - 0 + 1 = met.length by omega, name_last] at g3
      rw [show met.length - 1 - k = i by omega, hi] at h2
      rw [← Option.some.inj g3, Option.some.inj h2]
  · -- the firsts: name, then what was met behind i
    have e : ((walked.drop i).reverse.map (·.1)) = ((met.drop (i + 1)) ++ [name]).reverse := by
      apply List.ext_getElem?
      intro k
      by_cases hk : k < met.length - i
      · rw [List.getElem?_map, at' k hk, get_rev (by simp; omega)]
        obtain ⟨tw, hw⟩ := w_at (met.length - 1 - k) (by omega)
        obtain ⟨_, _, g3⟩ := c.at_ _ _ hw
        rw [hw, Option.map_some, ← g3]
        have e2 : (met ++ [name]).drop (i + 1) = met.drop (i + 1) ++ [name] := List.drop_append_of_le_length (by omega)
        rw [← e2, List.getElem?_drop]
        congr 1
        rw [List.length_drop, List.length_append, List.length_singleton]
        omega
      · rw [List.getElem?_eq_none (by rw [List.length_map, hl]; omega), List.getElem?_eq_none (by simp; omega)]
    rw [e]
    have key : (met.drop (i + 1) ++ [name]).Nodup := by
     rw [List.nodup_append]
     refine ⟨c.nd.sublist (List.drop_sublist _ _), by simp, fun a ha b hb => ?_⟩
     have : b = name := by simpa using hb
     subst this
     rintro rfl
     obtain ⟨j, hj⟩ := List.mem_iff_getElem?.mp ha
     rw [List.getElem?_drop] at hj
     have hjl := lt_of_get hj
     have e1 := (List.getElem?_eq_some_iff.mp hj).2
     have e2 := (List.getElem?_eq_some_iff.mp hi).2
     have := (List.pairwise_iff_getElem.mp c.nd) i (i + 1 + j) hil hjl (by omega)
     exact this (e2.trans e1.symm)
    rw [List.nodup_iff_pairwise_ne, List.pairwise_reverse]
    exact (List.nodup_iff_pairwise_ne.mp key).imp fun h => h.symm
end Mk03
set_option maxHeartbeats 400000
/-! k03: the plain law, ring_of. -/
namespace Mk03
open PySem PySem.Spec PyProof.Rows L2 Mi
variable {Q Rt : V → Store → Prop} {st : Store} {d : Nat} {md : Bool}
section
variable {r lb X : Nat} {rv : List V} {rows : List (List Str)} {labels : List Str}
theorem heads_lc {st1 : Store} {e : Ev} {v : Nat} {own : List Nat} {a : T} {Q : V → Store → Prop} (hv : v < (L2.wipe e own).length) (ha : wv (run D.pg (callN D.pg d) a (.on md) e st1) fun x st2 => x = .ref r ∧ st1 <+: st2)
    (hr : st1[r]? = some (.lst rv)) (hR : Paired (ListN X st1) rv rows) (hl : rows.length ≤ 1000)
    (hQ : ∀ st2, st1 <+: st2 → ∀ D', st2[D']? = some (.lst ((heads rows).map V.str)) → st1.length ≤ D' → Q (.ref D') st2) : wv (run D.pg (callN D.pg d) (.lc own (.n v) .seq a (.som (.var v)) (.idx (.var v) (.cst (.int 0)))) (.on md) e st1) Q := by
  have hrl := Mi.P.length hR
  refine lc_genS .l (fun j => decide (rows.getD j [] ≠ [])) (fun j _ y => y = .str ((rows.getD j []).headD "")) hv (ha.imp ?_)
  rintro x st2 ⟨rfl, p2⟩
  refine ⟨r, rv, rfl, get_pre p2 hr, by omega, fun j x st3 hx p3 _ => ?_, fun _ _ _ _ _ _ _ h => h, fun acc st3 p3 hD hP => ?_⟩
  · obtain ⟨row, hrow, p, rfl, _, hp⟩ := Mi.P.get hR hx
    have hp3 := get_pre (p2.trans p3) hp
    have eg : rows.getD j [] = row := by rw [List.getD_eq_getElem?_getD, hrow]; rfl
    have hvl : v < ((L2.wipe e own).set v (some (V.ref p))).length := by rw [List.length_set]; exact hv
    have hself : ((L2.wipe e own).set v (some (V.ref p)))[v]? = some (some (V.ref p)) := List.getElem?_set_self hv
    show wv (run D.pg (callN D.pg d) (.var v) (.on md) _ st3) _
    rw [eg, w_var]
    refine ⟨_, hself, List.prefix_refl _, ?_, fun hne => ?_⟩
    · simp only [truth, hp3]
      cases row <;> rfl
    · rw [w_idx, w_var]
      refine ⟨_, hself, ?_⟩
      rw [w_cst]
      cases row with
      | nil => simp at hne
      | cons y ys =>
        rw [i_at (items_lst hp3) at0]
        exact ⟨List.prefix_refl _, rfl⟩
  · have e1 := paired_fun hP
    have e2 : ((List.range rv.length).filter fun j => decide (rows.getD j [] ≠ [])).map (fun j => V.str ((rows.getD j []).headD "")) = (heads rows).map V.str := by
      rw [hrl]
      unfold heads
      rw [List.map_map]
      refine filter_range_get (l := rows) (p := fun r => decide (r ≠ [])) (g := V.str ∘ fun r => r.headD "") fun j x h => ?_
      have eg : rows.getD j [] = x := by rw [List.getD_eq_getElem?_getD, h]; rfl
      rw [eg]
      exact ⟨rfl, rfl⟩
    rw [e1, e2] at hD
    exact hQ st3 (p2.trans p3) _ hD p2.length_le
theorem ring_of_ok (hr : st[r]? = some (.lst rv)) (hR : Paired (ListN X st) rv rows) (hlb : st[lb]? = some (.lst (labels.map V.str))) (hll : labels.length = rows.length) (hl : rows.length ≤ 1000) (hn : nextN rows rows = none) (hne : heads rows ≠ []) (hnd : ∀ r ∈ rows, r.Nodup)
    (hQ : ∀ st' q lv ring, st <+: st' → st'[q]? = some (.lst lv) → Paired (TupS st') lv ring → RingOk rows labels ring → Q (.ref q) st') : wv (callN D.pg (d + 2) false "ring_of" [.ref r, .ref lb] st) Q := by
  have hs : 1000 < sz := by decide
  refine callN_w fn_ring_of rfl ?_
  rw [show f_ring_of.body = b_ring_of from rfl, show start f_ring_of.N [V.ref r, V.ref lb] = [some (V.ref r), some (V.ref lb), none, none, none, none] from rfl, b_ring_of]
  simp only [z_seq, z_ifs, z_asgN, z_ret, z_retN, z_don, z_drop, w_var, w_cst, w_bin, w_not, w_and, w_or, w_cmp, w_ife, w_cons, w_nil, w_som, w_tup, w_lst, w_call, w_bif, w_isi, w_idx, List.getElem?_cons_succ, List.getElem?_cons_zero, Option.some.injEq, exists_eq_left', tr_bl, tr_some, c_eqI, c_neI, c_eqS, c_neS, c_lt, c_le, c_gt, c_ge, c_is, c_isnot, o_add, o_sub, List.set_cons_zero, List.set_cons_succ, List.length_cons, List.length_nil, Nat.reduceAdd, Nat.reduceLT, Nat.zero_add, true_and, decide_eq_true_eq, decide_eq_false_iff_not, Bool.not_eq_true', Bool.not_eq_false', Bool.false_eq_true, Bool.true_eq_false, true_implies, false_implies, and_true, Nat.lt_add_one, reduceCtorEq, decide_true, decide_false, not_false_eq_true, not_true_eq_false]
  refine heads_lc (r := r) (X := X) (st1 := st) (by simp [L2.wipe]) ?ha hr hR hl fun st1 p1 D1 hD1 _ => ?_
  case ha =>
    simp only [z_seq, z_ifs, z_asgN, z_ret, z_retN, z_don, z_drop, w_var, w_cst, w_bin, w_not, w_and, w_or, w_cmp, w_ife, w_cons, w_nil, w_som, w_tup, w_lst, w_call, w_bif, w_isi, w_idx, List.getElem?_cons_succ, List.getElem?_cons_zero, Option.some.injEq, exists_eq_left', tr_bl, tr_some, c_eqI, c_neI, c_eqS, c_neS, c_lt, c_le, c_gt, c_ge, c_is, c_isnot, o_add, o_sub, List.set_cons_zero, List.set_cons_succ, List.length_cons, List.length_nil, Nat.reduceAdd, Nat.reduceLT, Nat.zero_add, true_and, decide_eq_true_eq, decide_eq_false_iff_not, Bool.not_eq_true', Bool.not_eq_false', Bool.false_eq_true, Bool.true_eq_false, true_implies, false_implies, and_true, Nat.lt_add_one, reduceCtorEq, decide_true, decide_false, not_false_eq_true, not_true_eq_false]
    exact List.prefix_refl _
  obtain ⟨x0, xs0, eh⟩ : ∃ x xs, heads rows = x :: xs := by
    cases h : heads rows with
    | nil => exact absurd h hne
    | cons x xs => exact ⟨x, xs, rfl⟩
  rw [eh] at hD1
  rw [i_at (items_lst hD1) at0]
  refine ⟨szl (by decide), szl (by decide), ?_⟩
  have hx0 : x0 ∈ heads rows := by rw [eh]; exact List.mem_cons_self
  refine z_whl (k := (heads rows).length) (fun k env st4 => ∃ name met walked wv x3, env = [some (.ref r), some (.ref lb), some (.str name), x3, some (.ref st1.length), some (.ref (st1 ++ [Mi.IO.lst []]).length)] ∧ st1 <+: st4 ∧ st4[st1.length]? = some (.lst (met.map V.str)) ∧
    st4[(st1 ++ [Mi.IO.lst []]).length]? = some (.lst wv) ∧ Paired (fun v t => ∃ p, v = .ref p ∧ (st1 ++ [Mi.IO.lst []]).length < p ∧ st4[p]? = some (.tup [.str t.1, .str t.2.1, .str t.2.2])) wv walked ∧ Ch rows labels met walked name ∧ k = (heads rows).length - met.length) (Nat.lt_of_le_of_lt (Nat.le_trans heads_len hl) (by decide)) ?_ ?_
  · refine ⟨x0, [], [], [], none, rfl, (List.prefix_append _ _).trans (List.prefix_append _ _), ?_, get_new, .nil, ⟨rfl, List.nodup_nil, ?_, fun j t h => nomatch h⟩, by simp⟩
    · exact get_pre (List.prefix_append _ _) get_new
    · intro x hx
      have : x = x0 := by simpa using hx
      rw [this]
      exact hx0
  · rintro k env st4 ⟨name, met, walked, wvs, x3, rfl, p4, hm4, hw4, hP4, c, rfl⟩
    have p04 := p1.trans p4
    have hmle : met.length ≤ (heads rows).length := c.nd.length_le_of_subset fun x hx => c.hd x (List.mem_append_left _ hx)
    have hhl : (heads rows).length ≤ 1000 := Nat.le_trans heads_len hl
    have eL : (st1 ++ [Mi.IO.lst []]).length = st1.length + 1 := by simp
    rw [eL] at hw4 hP4
    simp only [z_seq, z_ifs, z_asgN, z_ret, z_retN, z_don, z_drop, w_var, w_cst, w_bin, w_not, w_and, w_or, w_cmp, w_ife, w_cons, w_nil, w_som, w_tup, w_lst, w_call, w_bif, w_isi, w_idx, List.getElem?_cons_succ, List.getElem?_cons_zero, Option.some.injEq, exists_eq_left', tr_bl, tr_some, c_eqI, c_neI, c_eqS, c_neS, c_lt, c_le, c_gt, c_ge, c_is, c_isnot, o_add, o_sub, List.set_cons_zero, List.set_cons_succ, List.length_cons, List.length_nil, Nat.reduceAdd, Nat.reduceLT, Nat.zero_add, true_and, decide_eq_true_eq, decide_eq_false_iff_not, Bool.not_eq_true', Bool.not_eq_false', Bool.false_eq_true, Bool.true_eq_false, true_implies, false_implies, and_true, Nat.lt_add_one, reduceCtorEq, decide_true, decide_false, not_false_eq_true, not_true_eq_false]
    rw [nin_ok (items_lst hm4) flat_str, inV_str, eL]
    simp only [z_seq, z_ifs, z_asgN, z_ret, z_retN, z_don, z_drop, w_var, w_cst, w_bin, w_not, w_and, w_or, w_cmp, w_ife, w_cons, w_nil, w_som, w_tup, w_lst, w_call, w_bif, w_isi, w_idx, List.getElem?_cons_succ, List.getElem?_cons_zero, Option.some.injEq, exists_eq_left', tr_bl, tr_some, c_eqI, c_neI, c_eqS, c_neS, c_lt, c_le, c_gt, c_ge, c_is, c_isnot, o_add, o_sub, List.set_cons_zero, List.set_cons_succ, List.length_cons, List.length_nil, Nat.reduceAdd, Nat.reduceLT, Nat.zero_add, true_and, decide_eq_true_eq, decide_eq_false_iff_not, Bool.not_eq_true', Bool.not_eq_false', Bool.false_eq_true, Bool.true_eq_false, true_implies, false_implies, and_true, Nat.lt_add_one, reduceCtorEq, decide_true, decide_false, not_false_eq_true, not_true_eq_false]
    refine ⟨fun hni => ?_, fun hin => ?_⟩
    · have hlt : met.length < (heads rows).length := by
        have : (met ++ [name]).Nodup := by
          rw [List.nodup_append]
          refine ⟨c.nd, by simp, fun a ha b hb => ?_⟩
          have : b = name := by simpa using hb
          subst this
          exact fun z => hni (z ▸ ha)
        have := this.length_le_of_subset fun x hx => c.hd x hx
        rw [List.length_append, List.length_singleton] at this
        omega
      have hml : (met.map V.str).length < sz := by rw [List.length_map]; omega
      simp only [z_seq, z_ifs, z_asgN, z_ret, z_retN, z_don, z_drop, w_var, w_cst, w_bin, w_not, w_and, w_or, w_cmp, w_ife, w_cons, w_nil, w_som, w_tup, w_lst, w_call, w_bif, w_isi, w_idx, List.getElem?_cons_succ, List.getElem?_cons_zero, Option.some.injEq, exists_eq_left', tr_bl, tr_some, c_eqI, c_neI, c_eqS, c_neS, c_lt, c_le, c_gt, c_ge, c_is, c_isnot, o_add, o_sub, List.set_cons_zero, List.set_cons_succ, List.length_cons, List.length_nil, Nat.reduceAdd, Nat.reduceLT, Nat.zero_add, true_and, decide_eq_true_eq, decide_eq_false_iff_not, Bool.not_eq_true', Bool.not_eq_false', Bool.false_eq_true, Bool.true_eq_false, true_implies, false_implies, and_true, Nat.lt_add_one, reduceCtorEq, decide_true, decide_false, not_false_eq_true, not_true_eq_false, w_bm, bt_lst hm4]
      rw [bd_app hm4 hml]
      have hm4l := lt_of_get hm4
      have hw4l := lt_of_get hw4
      have ne1 : st1.length ≠ st1.length + 1 := by omega
      have hw5 : (st4.set st1.length (.lst (met.map V.str ++ [V.str name])))[st1.length + 1]? = some (.lst wvs) := by
        rw [List.getElem?_set_ne ne1]
        exact hw4
      simp only [z_seq, z_ifs, z_asgN, z_ret, z_retN, z_don, z_drop, w_var, w_cst, w_bin, w_not, w_and, w_or, w_cmp, w_ife, w_cons, w_nil, w_som, w_tup, w_lst, w_call, w_bif, w_isi, w_idx, List.getElem?_cons_succ, List.getElem?_cons_zero, Option.some.injEq, exists_eq_left', tr_bl, tr_some, c_eqI, c_neI, c_eqS, c_neS, c_lt, c_le, c_gt, c_ge, c_is, c_isnot, o_add, o_sub, List.set_cons_zero, List.set_cons_succ, List.length_cons, List.length_nil, Nat.reduceAdd, Nat.reduceLT, Nat.zero_add, true_and, decide_eq_true_eq, decide_eq_false_iff_not, Bool.not_eq_true', Bool.not_eq_false', Bool.false_eq_true, Bool.true_eq_false, true_implies, false_implies, and_true, Nat.lt_add_one, reduceCtorEq, decide_true, decide_false, not_false_eq_true, not_true_eq_false, bt_lst hw5]
      have p5 : st1 <+: st4.set st1.length (.lst (met.map V.str ++ [V.str name])) := pre_set p4 (Nat.le_refl _)
      have p05 := p1.trans p5
      obtain ⟨tl, htl⟩ := of_heads (c.hd name (by simp))
      have hbe := nextN_none hn htl
      refine leaning_to_ok (X := X) (get_pre p05 hr) (Paired.mono (fun _ _ h => h.pre p05) hR) (get_pre p05 hlb) hll hl hbe fun st6 q t p6 lq6 e6 lo6 hq6 => ?_
      have hw6 := get_pre p6 hw5
      have hwl : wvs.length < sz := by
        have := Mi.P.length hP4
        rw [c.len] at this
        omega
      rw [bd_app hw6 hwl]
      have hq6n : st1.length + 1 < q := by
        rw [List.length_set] at lq6
        omega
      have hw7 := get_set_self (o := .lst (wvs ++ [V.ref q])) hw6
      have hq7 : (st6.set (st1.length + 1) (.lst (wvs ++ [V.ref q])))[q]? = some (.tup [.str t.1, .str t.2.1, .str t.2.2]) := by
        rw [List.getElem?_set_ne (by omega)]
        exact hq6
      rw [w_neg, w_cst]
      refine ⟨1, rfl, ?_⟩
      rw [i_at (items_lst hw7) at_last, i_at (items_tup hq7) at0]
      refine ⟨_, ?_, t.1, met ++ [name], walked ++ [t], wvs ++ [V.ref q], x3, rfl, pre_set (p5.trans p6) (by omega), ?_, hw7, ?_, c.step hni e6 lo6, rfl⟩
      · rw [List.length_append, List.length_singleton]
        omega
      · rw [List.getElem?_set_ne (by omega)]
        have := get_pre p6 (get_set_self (o := .lst (met.map V.str ++ [V.str name])) hm4)
        rw [this]
        simp
      · refine Mi.P.append (Paired.mono ?_ hP4) (.cons ⟨q, rfl, hq6n, hq7⟩ .nil)
        rintro v t' ⟨p, e, hp, hpt⟩
        refine ⟨p, e, hp, ?_⟩
        rw [List.getElem?_set_ne (by omega)]
        refine get_pre p6 ?_
        rw [List.getElem?_set_ne (by omega)]
        exact hpt
    · have hin' : name ∈ met := by simpa using hin
      simp only [z_seq, z_ifs, z_asgN, z_ret, z_retN, z_don, z_drop, w_var, w_cst, w_bin, w_not, w_and, w_or, w_cmp, w_ife, w_cons, w_nil, w_som, w_tup, w_lst, w_call, w_bif, w_isi, w_idx, List.getElem?_cons_succ, List.getElem?_cons_zero, Option.some.injEq, exists_eq_left', tr_bl, tr_some, c_eqI, c_neI, c_eqS, c_neS, c_lt, c_le, c_gt, c_ge, c_is, c_isnot, o_add, o_sub, List.set_cons_zero, List.set_cons_succ, List.length_cons, List.length_nil, Nat.reduceAdd, Nat.reduceLT, Nat.zero_add, true_and, decide_eq_true_eq, decide_eq_false_iff_not, Bool.not_eq_true', Bool.not_eq_false', Bool.false_eq_true, Bool.true_eq_false, true_implies, false_implies, and_true, Nat.lt_add_one, reduceCtorEq, decide_true, decide_false, not_false_eq_true, not_true_eq_false, w_lrev, w_slc, part0, w_bm, bt_ix hm4]
      refine bd_ix hm4 hin' fun j hj hfirst => ?_
      simp only [z_seq, z_ifs, z_asgN, z_ret, z_retN, z_don, z_drop, w_var, w_cst, w_bin, w_not, w_and, w_or, w_cmp, w_ife, w_cons, w_nil, w_som, w_tup, w_lst, w_call, w_bif, w_isi, w_idx, List.getElem?_cons_succ, List.getElem?_cons_zero, Option.some.injEq, exists_eq_left', tr_bl, tr_some, c_eqI, c_neI, c_eqS, c_neS, c_lt, c_le, c_gt, c_ge, c_is, c_isnot, o_add, o_sub, List.set_cons_zero, List.set_cons_succ, List.length_cons, List.length_nil, Nat.reduceAdd, Nat.reduceLT, Nat.zero_add, true_and, decide_eq_true_eq, decide_eq_false_iff_not, Bool.not_eq_true', Bool.not_eq_false', Bool.false_eq_true, Bool.true_eq_false, true_implies, false_implies, and_true, Nat.lt_add_one, reduceCtorEq, decide_true, decide_false, not_false_eq_true, not_true_eq_false, part1]
      rw [s_lst hw4, cut_from]
      refine ⟨_, lstOf_at get_new, ?_⟩
      refine hQ _ _ _ _ ((p04.trans (List.prefix_append _ _)).trans (List.prefix_append _ _)) get_new ?_ (c.ring hnd hj)
      refine Mi.P.reverse (Mi.P.drop j (Paired.mono ?_ hP4))
      rintro v t ⟨p, e, _, hp⟩
      exact ⟨p, e, get_pre (List.prefix_append _ _) (get_pre (List.prefix_append _ _) hp)⟩
end
end Mk03
set_option maxHeartbeats 400000
/-! k03: the plain law, merged. -/
namespace Mk03
open PySem PySem.Spec PyProof.Rows L2 Mi
variable {Q Rt : V → Store → Prop} {st : Store} {d : Nat} {md : Bool} {E : EP}
/-- what is left behind L -/
def Red : List (List Str) → List Str → List (List Str) → Prop
  | rows, [], left => rows = left
  | rows, x :: L, left => nextN rows rows = some x ∧ Red (rows.map (offN x)) L left
theorem Red.snoc {x : Str} : ∀ {rows : List (List Str)} {L : List Str} {left : List (List Str)}, Red rows L left → nextN left left = some x → Red rows (L ++ [x]) (left.map (offN x))
  | rows, [], left, h, hn => by
    cases h
    exact ⟨hn, rfl⟩
  | rows, y :: L, left, h, hn => ⟨h.1, Red.snoc h.2 hn⟩
theorem Red.mg : ∀ {rows : List (List Str)} {L : List Str} {left : List (List Str)}, Red rows L left → (∀ r ∈ left, r = []) → Mg rows L
  | rows, [], left, h, hn => by
    cases h
    exact hn
  | rows, y :: L, left, h, hn => ⟨h.1, Red.mg h.2 hn⟩
theorem off_suf {x : Str} {r : List Str} : offN x r <:+ r := by
  unfold offN
  split
  · exact List.suffix_refl _
  · split
    · exact List.suffix_cons _ _
    · exact List.suffix_refl _
theorem Red.suf : ∀ {rows : List (List Str)} {L : List Str} {left : List (List Str)}, Red rows L left → ∀ (i : Nat) (l : List Str), left[i]? = some l → ∃ r, rows[i]? = some r ∧ l <:+ r
  | rows, [], left, h, i, l, hl => by
    cases h
    exact ⟨l, hl, List.suffix_refl _⟩
  | rows, y :: L, left, h, i, l, hl => by
    obtain ⟨r, h1, h2⟩ := Red.suf h.2 i l hl
    rw [List.getElem?_map] at h1
    obtain ⟨r0, h3, rfl⟩ := Option.map_eq_some_iff.mp h1
    exact ⟨r0, h3, h2.trans off_suf⟩
theorem Red.len : ∀ {rows : List (List Str)} {L : List Str} {left : List (List Str)}, Red rows L left → left.length = rows.length
  | rows, [], left, h => by
    cases h
    rfl
  | rows, y :: L, left, h => by
    rw [Red.len h.2, List.length_map]
theorem Red.nd {rows : List (List Str)} {L : List Str} {left : List (List Str)} (h : Red rows L left) (hn : ∀ r ∈ rows, r.Nodup) : ∀ r ∈ left, r.Nodup := fun l hl => by
  obtain ⟨i, hi⟩ := List.mem_iff_getElem?.mp hl
  obtain ⟨r, h1, h2⟩ := h.suf i l hi
  exact (hn r (List.mem_of_getElem? h1)).sublist h2.sublist
def tot (rows : List (List Str)) : Nat := (rows.map List.length).sum
theorem tot_off {x : Str} : ∀ {rows : List (List Str)}, tot (rows.map (offN x)) ≤ tot rows
  | [] => Nat.le_refl _
  | r :: rs => by
    have h1 : (offN x r).length ≤ r.length := (off_suf (x := x) (r := r)).length_le
    have h2 := tot_off (x := x) (rows := rs)
    unfold tot at h2 ⊢
    simp only [List.map_cons, List.sum_cons]
    omega
theorem tot_lt {x : Str} {tl : List Str} : ∀ {rows : List (List Str)}, (x :: tl) ∈ rows → tot (rows.map (offN x)) < tot rows
  | [], h => nomatch h
  | r :: rs, h => by
    have h2 := tot_off (x := x) (rows := rs)
    unfold tot at h2 ⊢
    simp only [List.map_cons, List.sum_cons]
    rcases List.mem_cons.mp h with h | h
    · subst h
      have : (offN x (x :: tl)).length = tl.length := by simp [offN]
      rw [this, List.length_cons]
      omega
    · have h3 := tot_lt h
      unfold tot at h3
      have h1 : (offN x r).length ≤ r.length := (off_suf (x := x) (r := r)).length_le
      omega
theorem nextN_head {all : List (List Str)} {x : Str} : ∀ {rows : List (List Str)}, nextN all rows = some x → (∃ tl, (x :: tl) ∈ rows) ∧ behind all x = false
  | [], h => nomatch h
  | [] :: rs, h => by
    obtain ⟨⟨tl, h1⟩, h2⟩ := nextN_head (rows := rs) h
    exact ⟨⟨tl, List.mem_cons_of_mem _ h1⟩, h2⟩
  | (y :: ys) :: rs, h => by
    unfold nextN at h
    cases hb : behind all y with
    | false =>
      rw [hb] at h
      have e : y = x := Option.some.inj h
      subst e
      exact ⟨⟨ys, List.mem_cons_self⟩, hb⟩
    | true =>
      rw [hb] at h
      obtain ⟨⟨tl, h1⟩, h2⟩ := nextN_head (rows := rs) h
      exact ⟨⟨tl, List.mem_cons_of_mem _ h1⟩, h2⟩
theorem tot_mem {r : List Str} : ∀ {rows : List (List Str)}, r ∈ rows → r.length ≤ tot rows
  | r' :: rs, h => by
    unfold tot
    simp only [List.map_cons, List.sum_cons]
    rcases List.mem_cons.mp h with h | h
    · subst h
      omega
    · have := tot_mem h
      unfold tot at this
      omega
section
variable {r lb X : Nat} {rv : List V} {rows : List (List Str)} {labels : List Str}
/-- [list(row) for row in rows], of lists of texts -/
theorem copy_lc {cf : Bool → Str → List V → Store → R} {st1 : Store} {e : Ev} {v : Nat} {own : List Nat} {a : T} {Q : V → Store → Prop} (hv : v < (L2.wipe e own).length) (ha : wv (run D.pg cf a (.on md) e st1) fun x st2 => x = .ref r ∧ st1 = st2)
    (hr : st1[r]? = some (.lst rv)) (hR : Paired (ListN X st1) rv rows) (hl : rows.length ≤ 1000)
    (hQ : ∀ st2 lv, st1 <+: st2 → st2[st1.length]? = some (.lst lv) → Paired (fun v xs => ∃ p, v = .ref p ∧ st1.length < p ∧ p < st2.length ∧ st2[p]? = some (.lst (xs.map V.str))) lv rows → Q (.ref st1.length) st2) : wv (run D.pg cf (.lc own (.n v) .seq a .nil (.bif .list (.cons (.var v) .nil))) (.on md) e st1) Q := by
  have hrl := Mi.P.length hR
  refine lc_genS .l (fun _ => true) (fun j st2 y => ∃ p row, rows[j]? = some row ∧ y = .ref p ∧ st1.length < p ∧ st2[p]? = some (.lst (row.map V.str))) hv (ha.imp ?_)
  rintro x st2 ⟨rfl, rfl⟩
  refine ⟨r, rv, rfl, hr, by omega, fun j x st3 hx p3 l3 => ?_, ?_, fun acc st3 p3 hD hP => ?_⟩
  · obtain ⟨row, hrow, p, rfl, _, hp⟩ := Mi.P.get hR hx
    have hp3 := get_pre p3 hp
    have hself : ((L2.wipe e own).set v (some (V.ref p)))[v]? = some (some (V.ref p)) := List.getElem?_set_self hv
    refine ⟨rfl, ?_⟩
    rw [w_bif, w_cons, w_var]
    refine ⟨_, hself, ?_⟩
    rw [w_nil, b_list (items_lst hp3)]
    exact ⟨List.prefix_append _ _, _, row, hrow, rfl, l3, get_new⟩
  · rintro j st2 st3 y hj p2 hb ⟨p, row, h1, h2, h3, h4⟩
    exact ⟨p, row, h1, h2, h3, hb.get h4 (by omega)⟩
  · have ef : (List.range rv.length).filter (fun _ => true) = List.range rv.length := by simp
    rw [ef, hrl] at hP
    refine hQ st3 acc p3 hD (paired_range hP ?_)
    rintro j row y hrow ⟨p, row', h1, h2, h3, h4⟩
    rw [hrow] at h1
    cases h1
    exact ⟨p, h2, h3, lt_of_get h4, h4⟩
/-- [len(row) > 0 for row in left] -/
theorem lens_lc {cf : Bool → Str → List V → Store → R} {st1 : Store} {e : Ev} {v : Nat} {own : List Nat} {a : T} {Q : V → Store → Prop} (hv : v < (L2.wipe e own).length) (ha : wv (run D.pg cf a (.on md) e st1) fun x st2 => x = .ref r ∧ st1 = st2)
    (hr : st1[r]? = some (.lst rv)) (hR : Paired (ListN X st1) rv rows) (hl : rows.length ≤ 1000)
    (hQ : ∀ st2, st1 <+: st2 → st2[st1.length]? = some (.lst ((lens rows).map V.bl)) → Q (.ref st1.length) st2) : wv (run D.pg cf (.lc own (.n v) .seq a .nil (.cmp .Gt (.bif .len (.cons (.var v) .nil)) (.cst (.int 0)))) (.on md) e st1) Q := by
  have hrl := Mi.P.length hR
  refine lc_genS .l (fun _ => true) (fun j st2 y => y = .bl (decide (0 < ((rows.getD j []).length : Int)))) hv (ha.imp ?_)
  rintro x st2 ⟨rfl, rfl⟩
  refine ⟨r, rv, rfl, hr, by omega, fun j x st3 hx p3 l3 => ?_, fun _ _ _ _ _ _ _ h => h, fun acc st3 p3 hD hP => ?_⟩
  · obtain ⟨row, hrow, p, rfl, _, hp⟩ := Mi.P.get hR hx
    have hp3 := get_pre p3 hp
    have hself : ((L2.wipe e own).set v (some (V.ref p)))[v]? = some (some (V.ref p)) := List.getElem?_set_self hv
    have eg : rows.getD j [] = row := by rw [List.getD_eq_getElem?_getD, hrow]; rfl
    refine ⟨rfl, ?_⟩
    rw [w_cmp, w_bif, w_cons, w_var]
    refine ⟨_, hself, ?_⟩
    rw [w_nil, b_len (items_lst hp3), w_cst, c_gt, eg, List.length_map]
    exact ⟨List.prefix_refl _, rfl⟩
  · have ef : (List.range rv.length).filter (fun _ => true) = List.range rv.length := by simp
    rw [ef, hrl] at hP
    have e1 := paired_fun hP
    rw [e1] at hD
    refine hQ st3 p3 ?_
    rw [hD]
    unfold lens
    rw [List.map_map]
    refine congrArg (fun z => some (Mi.IO.lst z)) (map_range_get fun j x h => ?_)
    have eg : rows.getD j [] = x := by rw [List.getD_eq_getElem?_getD, h]; rfl
    rw [eg]
    rfl
end
/-- the merging: the merged row, or the ring -/
theorem merged_x {r lb : Nat} {rv : List V} {rows : List (List Str)} {labels : List Str} {X0 : Nat} (hr : st[r]? = some (.lst rv)) (hR : Paired (ListN X0 st) rv rows) (hlb : st[lb]? = some (.lst (labels.map V.str))) (hll : labels.length = rows.length) (hl : rows.length ≤ 1000) (htot : tot rows ≤ 100000) (hnd : ∀ r ∈ rows, r.Nodup)
    (hQ : ∀ st' q L, st <+: st' → st'[q]? = some (.lst (L.map V.str)) → Mg rows L → Q (.ref q) st')
    (hE : ∀ st' q lv ring L left, st <+: st' → st'[q]? = some (.lst lv) → Paired (TupS st') lv ring → Red rows L left → nextN left left = none → RingOk left labels ring → E "AtOdds" [("ring", .ref q)] st') : xv (callN D.pg (d + 3) false "merged" [.ref r, .ref lb] st) Q E := by
  refine callN_x fn_merged rfl ?_
  rw [show f_merged.body = b_merged from rfl, show start f_merged.N [V.ref r, V.ref lb] = [some (V.ref r), some (V.ref lb), none, none, none, none] from rfl, b_merged]
  rw [xz_seq]
  refine x_asgN (wv.x ?_)
  refine copy_lc (r := r) (X := X0) (by simp [L2.wipe]) (by simp only [z_seq, z_ifs, z_asgN, z_ret, z_retN, z_don, z_drop, w_var, w_cst, w_bin, w_not, w_and, w_or, w_cmp, w_ife, w_cons, w_nil, w_som, w_tup, w_lst, w_call, w_bif, w_isi, w_idx, List.getElem?_cons_succ, List.getElem?_cons_zero, Option.some.injEq, exists_eq_left', tr_bl, tr_some, c_eqI, c_neI, c_eqS, c_neS, c_lt, c_le, c_gt, c_ge, c_is, c_isnot, o_add, o_sub, List.set_cons_zero, List.set_cons_succ, List.length_cons, List.length_nil, Nat.reduceAdd, Nat.reduceLT, Nat.zero_add, true_and, decide_eq_true_eq, decide_eq_false_iff_not, Bool.not_eq_true', Bool.not_eq_false', Bool.false_eq_true, Bool.true_eq_false, true_implies, false_implies, and_true, Nat.lt_add_one, reduceCtorEq, decide_true, decide_false, not_false_eq_true, not_true_eq_false]) hr hR hl fun st1 lv1 p1 hD1 hP1 => ?_
  simp only [z_seq, z_ifs, z_asgN, z_ret, z_retN, z_don, z_drop, w_var, w_cst, w_bin, w_not, w_and, w_or, w_cmp, w_ife, w_cons, w_nil, w_som, w_tup, w_lst, w_call, w_bif, w_isi, w_idx, List.getElem?_cons_succ, List.getElem?_cons_zero, Option.some.injEq, exists_eq_left', tr_bl, tr_some, c_eqI, c_neI, c_eqS, c_neS, c_lt, c_le, c_gt, c_ge, c_is, c_isnot, o_add, o_sub, List.set_cons_zero, List.set_cons_succ, List.length_cons, List.length_nil, Nat.reduceAdd, Nat.reduceLT, Nat.zero_add, true_and, decide_eq_true_eq, decide_eq_false_iff_not, Bool.not_eq_true', Bool.not_eq_false', Bool.false_eq_true, Bool.true_eq_false, true_implies, false_implies, and_true, Nat.lt_add_one, reduceCtorEq, decide_true, decide_false, not_false_eq_true, not_true_eq_false, xz_seq]
  refine x_asgN (wv.x ?_)
  simp only [z_seq, z_ifs, z_asgN, z_ret, z_retN, z_don, z_drop, w_var, w_cst, w_bin, w_not, w_and, w_or, w_cmp, w_ife, w_cons, w_nil, w_som, w_tup, w_lst, w_call, w_bif, w_isi, w_idx, List.getElem?_cons_succ, List.getElem?_cons_zero, Option.some.injEq, exists_eq_left', tr_bl, tr_some, c_eqI, c_neI, c_eqS, c_neS, c_lt, c_le, c_gt, c_ge, c_is, c_isnot, o_add, o_sub, List.set_cons_zero, List.set_cons_succ, List.length_cons, List.length_nil, Nat.reduceAdd, Nat.reduceLT, Nat.zero_add, true_and, decide_eq_true_eq, decide_eq_false_iff_not, Bool.not_eq_true', Bool.not_eq_false', Bool.false_eq_true, Bool.true_eq_false, true_implies, false_implies, and_true, Nat.lt_add_one, reduceCtorEq, decide_true, decide_false, not_false_eq_true, not_true_eq_false]
  refine ⟨szl (by decide), ?_⟩
  have hR1 : Paired (ListN st1.length (st1 ++ [Mi.IO.lst []])) lv1 rows := Paired.mono (fun v xs ⟨p, e, _, h2, h3⟩ => ⟨p, e, Nat.ne_of_lt h2, get_pre (List.prefix_append _ _) h3⟩) hP1
  refine x_whl (k := tot rows) (fun k env st4 => ∃ q lv left L x3 x5, env = [some (.ref r), some (.ref lb), some (.ref q), x3, some (.ref st1.length), x5] ∧ st1 <+: st4 ∧ st4[st1.length]? = some (.lst (L.map V.str)) ∧ q ≠ st1.length ∧ st4[q]? = some (.lst lv) ∧ Paired (ListN st1.length st4) lv left ∧ Red rows L left ∧ k = tot left ∧ L.length + tot left ≤ tot rows) (by omega) ?_ ?_
  · exact ⟨st.length, lv1, rows, [], none, none, rfl, List.prefix_append _ _, get_new, Nat.ne_of_lt (lt_of_get hD1), get_pre (List.prefix_append _ _) hD1, hR1, rfl, rfl, by simp⟩
  · rintro k env st4 ⟨q, lv, left, L, x3, x5, rfl, p4, hd4, hq, hq4, hP4, hred, rfl, hlen⟩
    have hl4 : left.length ≤ 1000 := by rw [hred.len]; exact hl
    refine wv.x ?_
    simp only [z_seq, z_ifs, z_asgN, z_ret, z_retN, z_don, z_drop, w_var, w_cst, w_bin, w_not, w_and, w_or, w_cmp, w_ife, w_cons, w_nil, w_som, w_tup, w_lst, w_call, w_bif, w_isi, w_idx, List.getElem?_cons_succ, List.getElem?_cons_zero, Option.some.injEq, exists_eq_left', tr_bl, tr_some, c_eqI, c_neI, c_eqS, c_neS, c_lt, c_le, c_gt, c_ge, c_is, c_isnot, o_add, o_sub, List.set_cons_zero, List.set_cons_succ, List.length_cons, List.length_nil, Nat.reduceAdd, Nat.reduceLT, Nat.zero_add, true_and, decide_eq_true_eq, decide_eq_false_iff_not, Bool.not_eq_true', Bool.not_eq_false', Bool.false_eq_true, Bool.true_eq_false, true_implies, false_implies, and_true, Nat.lt_add_one, reduceCtorEq, decide_true, decide_false, not_false_eq_true, not_true_eq_false]
    refine lens_lc (r := q) (X := st1.length) (by simp [L2.wipe]) (by simp only [z_seq, z_ifs, z_asgN, z_ret, z_retN, z_don, z_drop, w_var, w_cst, w_bin, w_not, w_and, w_or, w_cmp, w_ife, w_cons, w_nil, w_som, w_tup, w_lst, w_call, w_bif, w_isi, w_idx, List.getElem?_cons_succ, List.getElem?_cons_zero, Option.some.injEq, exists_eq_left', tr_bl, tr_some, c_eqI, c_neI, c_eqS, c_neS, c_lt, c_le, c_gt, c_ge, c_is, c_isnot, o_add, o_sub, List.set_cons_zero, List.set_cons_succ, List.length_cons, List.length_nil, Nat.reduceAdd, Nat.reduceLT, Nat.zero_add, true_and, decide_eq_true_eq, decide_eq_false_iff_not, Bool.not_eq_true', Bool.not_eq_false', Bool.false_eq_true, Bool.true_eq_false, true_implies, false_implies, and_true, Nat.lt_add_one, reduceCtorEq, decide_true, decide_false, not_false_eq_true, not_true_eq_false]) hq4 hP4 hl4 fun st5 p5 hD5 => ?_
    rw [b_any hD5]
    simp only [z_seq, z_ifs, z_asgN, z_ret, z_retN, z_don, z_drop, w_var, w_cst, w_bin, w_not, w_and, w_or, w_cmp, w_ife, w_cons, w_nil, w_som, w_tup, w_lst, w_call, w_bif, w_isi, w_idx, List.getElem?_cons_succ, List.getElem?_cons_zero, Option.some.injEq, exists_eq_left', tr_bl, tr_some, c_eqI, c_neI, c_eqS, c_neS, c_lt, c_le, c_gt, c_ge, c_is, c_isnot, o_add, o_sub, List.set_cons_zero, List.set_cons_succ, List.length_cons, List.length_nil, Nat.reduceAdd, Nat.reduceLT, Nat.zero_add, true_and, decide_eq_true_eq, decide_eq_false_iff_not, Bool.not_eq_true', Bool.not_eq_false', Bool.false_eq_true, Bool.true_eq_false, true_implies, false_implies, and_true, Nat.lt_add_one, reduceCtorEq, decide_true, decide_false, not_false_eq_true, not_true_eq_false]
    have hd5 := get_pre p5 hd4
    have hq5 := get_pre p5 hq4
    have hP5 : Paired (ListN st1.length st5) lv left := Paired.mono (fun _ _ h => h.pre p5) hP4
    have p05 := p4.trans p5
    cases hany : (lens left).any id with
    | false =>
      simp only [z_seq, z_ifs, z_asgN, z_ret, z_retN, z_don, z_drop, w_var, w_cst, w_bin, w_not, w_and, w_or, w_cmp, w_ife, w_cons, w_nil, w_som, w_tup, w_lst, w_call, w_bif, w_isi, w_idx, List.getElem?_cons_succ, List.getElem?_cons_zero, Option.some.injEq, exists_eq_left', tr_bl, tr_some, c_eqI, c_neI, c_eqS, c_neS, c_lt, c_le, c_gt, c_ge, c_is, c_isnot, o_add, o_sub, List.set_cons_zero, List.set_cons_succ, List.length_cons, List.length_nil, Nat.reduceAdd, Nat.reduceLT, Nat.zero_add, true_and, decide_eq_true_eq, decide_eq_false_iff_not, Bool.not_eq_true', Bool.not_eq_false', Bool.false_eq_true, Bool.true_eq_false, true_implies, false_implies, and_true, Nat.lt_add_one, reduceCtorEq, decide_true, decide_false, not_false_eq_true, not_true_eq_false]
      refine wz.x ?_
      simp only [z_seq, z_ifs, z_asgN, z_ret, z_retN, z_don, z_drop, w_var, w_cst, w_bin, w_not, w_and, w_or, w_cmp, w_ife, w_cons, w_nil, w_som, w_tup, w_lst, w_call, w_bif, w_isi, w_idx, List.getElem?_cons_succ, List.getElem?_cons_zero, Option.some.injEq, exists_eq_left', tr_bl, tr_some, c_eqI, c_neI, c_eqS, c_neS, c_lt, c_le, c_gt, c_ge, c_is, c_isnot, o_add, o_sub, List.set_cons_zero, List.set_cons_succ, List.length_cons, List.length_nil, Nat.reduceAdd, Nat.reduceLT, Nat.zero_add, true_and, decide_eq_true_eq, decide_eq_false_iff_not, Bool.not_eq_true', Bool.not_eq_false', Bool.false_eq_true, Bool.true_eq_false, true_implies, false_implies, and_true, Nat.lt_add_one, reduceCtorEq, decide_true, decide_false, not_false_eq_true, not_true_eq_false]
      exact hQ _ _ _ (p1.trans p05) hd5 (hred.mg (lens_any.mp hany))
    | true =>
      simp only [z_seq, z_ifs, z_asgN, z_ret, z_retN, z_don, z_drop, w_var, w_cst, w_bin, w_not, w_and, w_or, w_cmp, w_ife, w_cons, w_nil, w_som, w_tup, w_lst, w_call, w_bif, w_isi, w_idx, List.getElem?_cons_succ, List.getElem?_cons_zero, Option.some.injEq, exists_eq_left', tr_bl, tr_some, c_eqI, c_neI, c_eqS, c_neS, c_lt, c_le, c_gt, c_ge, c_is, c_isnot, o_add, o_sub, List.set_cons_zero, List.set_cons_succ, List.length_cons, List.length_nil, Nat.reduceAdd, Nat.reduceLT, Nat.zero_add, true_and, decide_eq_true_eq, decide_eq_false_iff_not, Bool.not_eq_true', Bool.not_eq_false', Bool.false_eq_true, Bool.true_eq_false, true_implies, false_implies, and_true, Nat.lt_add_one, reduceCtorEq, decide_true, decide_false, not_false_eq_true, not_true_eq_false]
      rw [xz_seq]
      refine x_asgN (wv.x ?_)
      simp only [z_seq, z_ifs, z_asgN, z_ret, z_retN, z_don, z_drop, w_var, w_cst, w_bin, w_not, w_and, w_or, w_cmp, w_ife, w_cons, w_nil, w_som, w_tup, w_lst, w_call, w_bif, w_isi, w_idx, List.getElem?_cons_succ, List.getElem?_cons_zero, Option.some.injEq, exists_eq_left', tr_bl, tr_some, c_eqI, c_neI, c_eqS, c_neS, c_lt, c_le, c_gt, c_ge, c_is, c_isnot, o_add, o_sub, List.set_cons_zero, List.set_cons_succ, List.length_cons, List.length_nil, Nat.reduceAdd, Nat.reduceLT, Nat.zero_add, true_and, decide_eq_true_eq, decide_eq_false_iff_not, Bool.not_eq_true', Bool.not_eq_false', Bool.false_eq_true, Bool.true_eq_false, true_implies, false_implies, and_true, Nat.lt_add_one, reduceCtorEq, decide_true, decide_false, not_false_eq_true, not_true_eq_false]
      refine next_name_ok hq5 hP5 fun st6 p6 => ?_
      have hd6 := get_pre p6 hd5
      have hq6 := get_pre p6 hq5
      have hP6 : Paired (ListN st1.length st6) lv left := Paired.mono (fun _ _ h => h.pre p6) hP5
      have p06 := p05.trans p6
      rw [xz_seq]
      refine x_ifs (wv.x ?_)
      cases hnx : nextN left left with
      | none =>
        simp only [z_seq, z_ifs, z_asgN, z_ret, z_retN, z_don, z_drop, w_var, w_cst, w_bin, w_not, w_and, w_or, w_cmp, w_ife, w_cons, w_nil, w_som, w_tup, w_lst, w_call, w_bif, w_isi, w_idx, List.getElem?_cons_succ, List.getElem?_cons_zero, Option.some.injEq, exists_eq_left', tr_bl, tr_some, c_eqI, c_neI, c_eqS, c_neS, c_lt, c_le, c_gt, c_ge, c_is, c_isnot, o_add, o_sub, List.set_cons_zero, List.set_cons_succ, List.length_cons, List.length_nil, Nat.reduceAdd, Nat.reduceLT, Nat.zero_add, true_and, decide_eq_true_eq, decide_eq_false_iff_not, Bool.not_eq_true', Bool.not_eq_false', Bool.false_eq_true, Bool.true_eq_false, true_implies, false_implies, and_true, Nat.lt_add_one, reduceCtorEq, decide_true, decide_false, not_false_eq_true, not_true_eq_false, strO]
        rw [xz_seq]
        refine x_rai (f := "ring") (by rfl) (wv.x ?_)
        have hr6 := get_pre (p1.trans p06) hr
        have hlb6 := get_pre (p1.trans p06) hlb
        have hne : heads left ≠ [] := by
          intro hz
          have : ∀ r ∈ left, r = [] := fun r hr => by
            cases r with
            | nil => rfl
            | cons y ys =>
              have := mem_heads hr
              rw [hz] at this
              cases this
          rw [← lens_any, hany] at this
          cases this
        simp only [z_seq, z_ifs, z_asgN, z_ret, z_retN, z_don, z_drop, w_var, w_cst, w_bin, w_not, w_and, w_or, w_cmp, w_ife, w_cons, w_nil, w_som, w_tup, w_lst, w_call, w_bif, w_isi, w_idx, List.getElem?_cons_succ, List.getElem?_cons_zero, Option.some.injEq, exists_eq_left', tr_bl, tr_some, c_eqI, c_neI, c_eqS, c_neS, c_lt, c_le, c_gt, c_ge, c_is, c_isnot, o_add, o_sub, List.set_cons_zero, List.set_cons_succ, List.length_cons, List.length_nil, Nat.reduceAdd, Nat.reduceLT, Nat.zero_add, true_and, decide_eq_true_eq, decide_eq_false_iff_not, Bool.not_eq_true', Bool.not_eq_false', Bool.false_eq_true, Bool.true_eq_false, true_implies, false_implies, and_true, Nat.lt_add_one, reduceCtorEq, decide_true, decide_false, not_false_eq_true, not_true_eq_false]
        refine ring_of_ok (d := d) hq6 hP6 hlb6 (by rw [hred.len]; exact hll) hl4 hnx hne (hred.nd hnd) fun st7 q7 lv7 ring p7 h7 hP7 ho => ?_
        exact hE st7 q7 lv7 ring L left (p1.trans (p06.trans p7)) h7 hP7 hred hnx ho
      | some x =>
        simp only [z_seq, z_ifs, z_asgN, z_ret, z_retN, z_don, z_drop, w_var, w_cst, w_bin, w_not, w_and, w_or, w_cmp, w_ife, w_cons, w_nil, w_som, w_tup, w_lst, w_call, w_bif, w_isi, w_idx, List.getElem?_cons_succ, List.getElem?_cons_zero, Option.some.injEq, exists_eq_left', tr_bl, tr_some, c_eqI, c_neI, c_eqS, c_neS, c_lt, c_le, c_gt, c_ge, c_is, c_isnot, o_add, o_sub, List.set_cons_zero, List.set_cons_succ, List.length_cons, List.length_nil, Nat.reduceAdd, Nat.reduceLT, Nat.zero_add, true_and, decide_eq_true_eq, decide_eq_false_iff_not, Bool.not_eq_true', Bool.not_eq_false', Bool.false_eq_true, Bool.true_eq_false, true_implies, false_implies, and_true, Nat.lt_add_one, reduceCtorEq, decide_true, decide_false, not_false_eq_true, not_true_eq_false, strO]
        refine wz.x ?_
        obtain ⟨⟨tl, hmem⟩, _⟩ := nextN_head hnx
        have htl := tot_lt hmem
        have hsz : 100000 < sz := by decide
        simp only [z_seq, z_ifs, z_asgN, z_ret, z_retN, z_don, z_drop, w_var, w_cst, w_bin, w_not, w_and, w_or, w_cmp, w_ife, w_cons, w_nil, w_som, w_tup, w_lst, w_call, w_bif, w_isi, w_idx, List.getElem?_cons_succ, List.getElem?_cons_zero, Option.some.injEq, exists_eq_left', tr_bl, tr_some, c_eqI, c_neI, c_eqS, c_neS, c_lt, c_le, c_gt, c_ge, c_is, c_isnot, o_add, o_sub, List.set_cons_zero, List.set_cons_succ, List.length_cons, List.length_nil, Nat.reduceAdd, Nat.reduceLT, Nat.zero_add, true_and, decide_eq_true_eq, decide_eq_false_iff_not, Bool.not_eq_true', Bool.not_eq_false', Bool.false_eq_true, Bool.true_eq_false, true_implies, false_implies, and_true, Nat.lt_add_one, reduceCtorEq, decide_true, decide_false, not_false_eq_true, not_true_eq_false]
        refine wz.x ?_
        simp only [z_seq, z_ifs, z_asgN, z_ret, z_retN, z_don, z_drop, w_var, w_cst, w_bin, w_not, w_and, w_or, w_cmp, w_ife, w_cons, w_nil, w_som, w_tup, w_lst, w_call, w_bif, w_isi, w_idx, List.getElem?_cons_succ, List.getElem?_cons_zero, Option.some.injEq, exists_eq_left', tr_bl, tr_some, c_eqI, c_neI, c_eqS, c_neS, c_lt, c_le, c_gt, c_ge, c_is, c_isnot, o_add, o_sub, List.set_cons_zero, List.set_cons_succ, List.length_cons, List.length_nil, Nat.reduceAdd, Nat.reduceLT, Nat.zero_add, true_and, decide_eq_true_eq, decide_eq_false_iff_not, Bool.not_eq_true', Bool.not_eq_false', Bool.false_eq_true, Bool.true_eq_false, true_implies, false_implies, and_true, Nat.lt_add_one, reduceCtorEq, decide_true, decide_false, not_false_eq_true, not_true_eq_false, w_bm, bt_lst hd6]
        rw [bd_app hd6 (by rw [List.length_map]; omega)]
        have hd7 := get_set_self (o := .lst (L.map V.str ++ [.str x])) hd6
        have hq7 : (st6.set st1.length (.lst (L.map V.str ++ [.str x])))[q]? = some (.lst lv) := by
          rw [List.getElem?_set_ne hq.symm]
          exact hq6
        refine without_ok (X := st1.length) hq7 (Paired.mono (fun _ _ h => h.set) hP6) (lt_of_get hd7) hl4 fun q8 lv8 st8 p8 hq8 h8 hP8 => ?_
        refine ⟨_, ?_, q8, lv8, _, L ++ [x], x3, _, rfl, (pre_set p06 (Nat.le_refl _)).trans p8, ?_, hq8, h8, hP8, hred.snoc hnx, rfl, ?_⟩
        · exact htl
        · rw [get_pre p8 hd7]
          simp
        · rw [List.length_append, List.length_singleton]
          omega
end Mk03
set_option maxHeartbeats 400000
/-! k03: the plain law, names and rows. -/
namespace Mk03
open PySem PySem.Spec PyProof.Rows L2 Mi
variable {Q Rt : V → Store → Prop} {st : Store} {d : Nat} {md : Bool}
theorem fn__law_name_by : D.pg.fn "_law_name_by" = some f__law_name_by := by rfl
theorem fn__law_cell_at : D.pg.fn "_law_cell_at" = some f__law_cell_at := by rfl
theorem fn__law_row_by : D.pg.fn "_law_row_by" = some f__law_row_by := by rfl
def cellZ (ns : List Int) (k : Nat) : Int := ns.getD k 0
theorem cell_at_ok {ns : List Int} {k : Nat} (h : st[0]? = some (.fro (ns.map .int))) (hQ : Q (.int (cellZ ns k)) st) : wv (callN D.pg (d + 1) md "_law_cell_at" [.ref 0, .int (k : Int)] st) Q := by
  refine callN_w fn__law_cell_at rfl ?_
  rw [show f__law_cell_at.body = b__law_cell_at from rfl, show start f__law_cell_at.N [V.ref 0, V.int (k : Int)] = [some (V.ref 0), some (V.int (k : Int))] from rfl, b__law_cell_at]
  simp only [z_seq, z_ifs, z_asgN, z_ret, z_retN, z_don, z_drop, w_var, w_cst, w_bin, w_not, w_and, w_or, w_cmp, w_ife, w_cons, w_nil, w_som, w_tup, w_lst, w_call, w_bif, w_isi, w_idx, List.getElem?_cons_succ, List.getElem?_cons_zero, Option.some.injEq, exists_eq_left', tr_bl, tr_some, c_eqI, c_neI, c_eqS, c_neS, c_lt, c_le, c_gt, c_ge, c_is, c_isnot, o_add, o_sub, List.set_cons_zero, List.set_cons_succ, List.length_cons, List.length_nil, Nat.reduceAdd, Nat.reduceLT, Nat.zero_add, true_and, decide_eq_true_eq, decide_eq_false_iff_not, Bool.not_eq_true', Bool.not_eq_false', Bool.false_eq_true, Bool.true_eq_false, true_implies, false_implies, and_true, Nat.lt_add_one, reduceCtorEq, decide_true, decide_false, not_false_eq_true, not_true_eq_false, b_len (items_fro h), List.length_map]
  refine ⟨fun hl => ?_, fun hl => ?_⟩
  · have hk : k < ns.length := by omega
    have hv : (ns.map V.int)[k]? = some (V.int (cellZ ns k)) := by
      rw [List.getElem?_map, List.getElem?_eq_getElem hk]
      unfold cellZ
      rw [List.getD_eq_getElem?_getD, List.getElem?_eq_getElem hk]
      rfl
    rw [i_at (items_fro h) (at_nat hv)]
    exact hQ
  · have hk : ns.length ≤ k := by omega
    have e : cellZ ns k = 0 := by
      unfold cellZ
      rw [List.getD_eq_getElem?_getD, List.getElem?_eq_none hk]
      rfl
    rw [e] at hQ
    exact hQ
def abc : Str := "abcdefghijklmnopqrstuvwxyz"
theorem abc_len : abc.length = 26 := by decide +kernel
def chr (i : Int) : Str := match atI abc.cps.toList i with
  | some c => ⟨#[c]⟩
  | none => abc
theorem s_str {s : Str} {l h : Option Int} (hs : s.length ≤ sz) : wv (slcD (.str s) l h st) Q = Q (.str (cutS s l h)) st := by
  simp only [slcD]
  rw [if_pos hs]
  rfl
theorem i_abc {i : Int} (h0 : 0 ≤ i) (h : i < 26) : wv (idxD (.str abc) (.int i) st) Q = Q (.str (chr i)) st := by
  obtain ⟨c, hc, _⟩ := atI_nn (xs := abc.cps.toList) h0 (by rw [show abc.cps.toList.length = 26 from abc_len]; exact h)
  have e : chr i = ⟨#[c]⟩ := by
    unfold chr
    rw [hc]
  simp only [idxD]
  rw [if_pos (by rw [abc_len]; decide), hc, e]
  rfl
def fill (c : Int) : Str := cutS (abc ++ abc) (some (c % 26)) (some (c % 26 + c / 26 % 19))
def place (c : Int) : Int := c / 494 % ((fill c).length + 1)
def nm (c k : Int) : Str := cutS (fill c) none (some (place c)) ++ chr (k / 26 % 26) ++ chr (k % 26) ++ cutS (fill c) (some (place c)) none
theorem len_app {a b : Str} : (a ++ b).length = a.length + b.length := by
  show (a.cps ++ b.cps).size = _
  rw [Array.size_append]
  rfl
theorem fill_len (c : Int) : (fill c).length ≤ 52 := by
  have := cutS_length (abc ++ abc) (some (c % 26)) (some (c % 26 + c / 26 % 19))
  rw [len_app, abc_len] at this
  exact this
theorem chr_len {i : Int} (h0 : 0 ≤ i) (h : i < 26) : (chr i).length = 1 := by
  obtain ⟨c, hc, _⟩ := atI_nn (xs := abc.cps.toList) h0 (by rw [show abc.cps.toList.length = 26 from abc_len]; exact h)
  unfold chr
  rw [hc]
  rfl
theorem name_by_ok {k c : Int} (hQ : Q (.str (nm c k)) st) : wv (callN D.pg (d + 1) md "_law_name_by" [.int k, .int c] st) Q := by
  refine callN_w fn__law_name_by rfl ?_
  rw [show f__law_name_by.body = b__law_name_by from rfl, show start f__law_name_by.N [V.int k, V.int c] = [some (V.int k), some (V.int c), none, none, none] from rfl, b__law_name_by]
  have eabc : ("abcdefghijklmnopqrstuvwxyz" : Str) = abc := rfl
  have hs : 1000 < sz := by decide
  have h26 : (0 : Int) < 26 := by decide
  have hf := fill_len c
  have e2 : abc.length + abc.length ≤ sz := by rw [abc_len]; omega
  have e3 : (abc ++ abc).length ≤ sz := by rw [len_app]; exact e2
  have m0 : ∀ z : Int, 0 ≤ z % 26 := fun z => Int.emod_nonneg z (by decide)
  have m1 : ∀ z : Int, z % 26 < 26 := fun z => Int.emod_lt_of_pos z h26
  have ef : cutS (abc ++ abc) (some (c % 26)) (some (c % 26 + c / 26 % 19)) = fill c := rfl
  have el : wv (bifD (.on md) .len [.str (fill c)] st) = fun Q => Q (.int ((fill c).length : Int)) st := by
    funext Q
    simp only [bifD]
    rw [if_pos (by omega)]
    rfl
  have hpos : (0 : Int) < (fill c).length + 1 := by omega
  have ep : c / 494 % (((fill c).length : Int) + 1) = place c := rfl
  have l1 := cutS_length (fill c) none (some (place c))
  have l2 := cutS_length (fill c) (some (place c)) none
  have c1 := chr_len (m0 (k / 26)) (m1 (k / 26))
  have c2 := chr_len (m0 k) (m1 k)
  simp only [z_seq, z_ifs, z_asgN, z_ret, z_retN, z_don, z_drop, w_var, w_cst, w_bin, w_not, w_and, w_or, w_cmp, w_ife, w_cons, w_nil, w_som, w_tup, w_lst, w_call, w_bif, w_isi, w_idx, List.getElem?_cons_succ, List.getElem?_cons_zero, Option.some.injEq, exists_eq_left', tr_bl, tr_some, c_eqI, c_neI, c_eqS, c_neS, c_lt, c_le, c_gt, c_ge, c_is, c_isnot, o_add, o_sub, List.set_cons_zero, List.set_cons_succ, List.length_cons, List.length_nil, Nat.reduceAdd, Nat.reduceLT, Nat.zero_add, true_and, decide_eq_true_eq, decide_eq_false_iff_not, Bool.not_eq_true', Bool.not_eq_false', Bool.false_eq_true, Bool.true_eq_false, true_implies, false_implies, and_true, Nat.lt_add_one, reduceCtorEq, decide_true, decide_false, not_false_eq_true, not_true_eq_false, w_slc, part0, part1, eabc, o_addS e2, o_mod h26, o_div h26 (show (26 : Int) < 1073741824 by decide), o_mod (show (0 : Int) < 19 by decide), s_str e3, ef, o_div (show (0 : Int) < 494 by decide) (show (494 : Int) < 1073741824 by decide), el, o_mod hpos, ep, s_str (show (fill c).length ≤ sz by omega), i_abc (m0 (k / 26)) (m1 (k / 26)), i_abc (m0 k) (m1 k)]
  rw [o_addS (by omega), o_addS (by rw [len_app]; omega), o_addS (by rw [len_app, len_app]; omega)]
  exact hQ
theorem chr_fin : ∀ i j : Fin 26, chr (i.val : Int) = chr (j.val : Int) → i = j := by decide +kernel
theorem chr_inj {i j : Int} (h0 : 0 ≤ i) (h : i < 26) (g0 : 0 ≤ j) (g : j < 26) (e : chr i = chr j) : i = j := by
  have := chr_fin ⟨i.toNat, by omega⟩ ⟨j.toNat, by omega⟩ (by
    show chr ((i.toNat : Nat) : Int) = chr ((j.toNat : Nat) : Int)
    rw [show ((i.toNat : Nat) : Int) = i from by omega, show ((j.toNat : Nat) : Int) = j from by omega]
    exact e)
  have := congrArg Fin.val this
  have : i.toNat = j.toNat := this
  omega
theorem nm_inj {c k k' : Int} (h0 : 0 ≤ k) (h : k < 676) (g0 : 0 ≤ k') (g : k' < 676) (e : nm c k = nm c k') : k = k' := by
  have e1 : (nm c k).cps.toList = (nm c k').cps.toList := by rw [e]
  unfold nm at e1
  have ap : ∀ a b : Str, (a ++ b).cps.toList = a.cps.toList ++ b.cps.toList := fun a b => by
    show (a.cps ++ b.cps).toList = _
    rw [Array.toList_append]
  rw [ap, ap, ap, ap, ap, ap] at e1
  have e2 := List.append_cancel_right e1
  have m0 : ∀ z : Int, 0 ≤ z % 26 := fun z => Int.emod_nonneg z (by decide)
  have m1 : ∀ z : Int, z % 26 < 26 := fun z => Int.emod_lt_of_pos z (by decide)
  have hl : ∀ z : Int, (chr (z % 26)).cps.toList.length = 1 := fun z => chr_len (m0 z) (m1 z)
  obtain ⟨e3, e4⟩ := List.append_inj' e2 (by rw [hl, hl])
  have e5 := List.append_cancel_left e3
  have st : ∀ a b : Str, a.cps.toList = b.cps.toList → a = b := fun a b h => by
    cases a; cases b
    congr 1
    exact Array.toList_inj.mp h
  have f1 := chr_inj (m0 k) (m1 k) (m0 k') (m1 k') (st _ _ e4)
  have f2 := chr_inj (m0 (k / 26)) (m1 (k / 26)) (m0 (k' / 26)) (m1 (k' / 26)) (st _ _ e5)
  omega
/-- names in a row -/
def nms (c : Int) (a n : Nat) : List Str := (List.range' a n).map fun k : Nat => nm c (k : Int)
theorem nms_nodup {c : Int} {a n : Nat} (h : a + n ≤ 676) : (nms c a n).Nodup := by
  unfold nms
  rw [List.nodup_iff_pairwise_ne, List.pairwise_map]
  refine List.Pairwise.imp_of_mem ?_ (List.nodup_range' (s := a) (n := n))
  intro x y hx hy hne e
  have hx := List.mem_range'_1.mp hx
  have hy := List.mem_range'_1.mp hy
  have := nm_inj (by omega) (by omega) (by omega) (by omega) e
  omega

/-! ### rows -/
/-- names that stand in N, each once -/
def RowOk (N xs : List Str) : Prop := xs.Nodup ∧ ∀ x ∈ xs, x ∈ N
theorem RowOk.perm {N xs ys : List Str} (h : RowOk N xs) (p : xs.Perm ys) : RowOk N ys := ⟨p.nodup_iff.mp h.1, fun x hx => h.2 x (p.mem_iff.mpr hx)⟩
theorem RowOk.len {N xs : List Str} (h : RowOk N xs) : xs.length ≤ N.length := h.1.length_le_of_subset fun x hx => h.2 x hx
/-- the names taken -/
def pick (N : List Str) (m : Int) : List Str := ((List.range N.length).filter fun j : Nat => !decide (m / ((j : Int) + 1) % 3 = 1)).map fun j => N.getD j ""
theorem pick_ok {N : List Str} (hN : N.Nodup) (m : Int) : RowOk N (pick N m) := by
  have e : (List.range N.length).map (fun j => N.getD j "") = N := by
    have := map_range_get (l := N) (f := fun j => N.getD j "") (g := id) fun j x h => by
      show N.getD j "" = x
      rw [List.getD_eq_getElem?_getD, h]
      rfl
    rw [this, List.map_id]
  have s : (pick N m).Sublist N := by
    have := (List.filter_sublist (l := List.range N.length) (p := fun j : Nat => !decide (m / ((j : Int) + 1) % 3 = 1))).map fun j => N.getD j ""
    rw [e] at this
    exact this
  exact ⟨hN.sublist s, fun x hx => s.subset hx⟩
theorem row_by_ok {np : Nat} {N : List Str} {c : Int} (hn : st[np]? = some (.lst (N.map V.str))) (hN : N.Nodup) (hl : N.length ≤ 100)
    (hQ : ∀ st' p xs, st <+: st' → st.length ≤ p → st'[p]? = some (.lst (xs.map V.str)) → RowOk N xs → Q (.ref p) st') : wv (callN D.pg (d + 1) md "_law_row_by" [.ref np, .int c] st) Q := by
  have hs : 1000 < sz := by decide
  refine callN_w fn__law_row_by rfl ?_
  rw [show f__law_row_by.body = b__law_row_by from rfl, show start f__law_row_by.N [V.ref np, V.int c] = [some (V.ref np), some (V.int c), none, none, none, none] from rfl, b__law_row_by]
  simp only [z_seq, z_ifs, z_asgN, z_ret, z_retN, z_don, z_drop, w_var, w_cst, w_bin, w_not, w_and, w_or, w_cmp, w_ife, w_cons, w_nil, w_som, w_tup, w_lst, w_call, w_bif, w_isi, w_idx, List.getElem?_cons_succ, List.getElem?_cons_zero, Option.some.injEq, exists_eq_left', tr_bl, tr_some, c_eqI, c_neI, c_eqS, c_neS, c_lt, c_le, c_gt, c_ge, c_is, c_isnot, o_add, o_sub, List.set_cons_zero, List.set_cons_succ, List.length_cons, List.length_nil, Nat.reduceAdd, Nat.reduceLT, Nat.zero_add, true_and, decide_eq_true_eq, decide_eq_false_iff_not, Bool.not_eq_true', Bool.not_eq_false', Bool.false_eq_true, Bool.true_eq_false, true_implies, false_implies, and_true, Nat.lt_add_one, reduceCtorEq, decide_true, decide_false, not_false_eq_true, not_true_eq_false, o_mulR (show (48271 : Int).natAbs < 2 ^ 64 by decide), o_mod (show (0 : Int) < 2147483647 by decide)]
  generalize c * 48271 % 2147483647 = m
  refine lc_genR (fun j : Nat => !decide (m / ((j : Int) + 1) % 3 = 1)) (fun j _ y => y = .str (N.getD j "")) N.length (by omega) (by simp [L2.wipe]) ?_
  simp only [z_seq, z_ifs, z_asgN, z_ret, z_retN, z_don, z_drop, w_var, w_cst, w_bin, w_not, w_and, w_or, w_cmp, w_ife, w_cons, w_nil, w_som, w_tup, w_lst, w_call, w_bif, w_isi, w_idx, List.getElem?_cons_succ, List.getElem?_cons_zero, Option.some.injEq, exists_eq_left', tr_bl, tr_some, c_eqI, c_neI, c_eqS, c_neS, c_lt, c_le, c_gt, c_ge, c_is, c_isnot, o_add, o_sub, List.set_cons_zero, List.set_cons_succ, List.length_cons, List.length_nil, Nat.reduceAdd, Nat.reduceLT, Nat.zero_add, true_and, decide_eq_true_eq, decide_eq_false_iff_not, Bool.not_eq_true', Bool.not_eq_false', Bool.false_eq_true, Bool.true_eq_false, true_implies, false_implies, and_true, Nat.lt_add_one, reduceCtorEq, decide_true, decide_false, not_false_eq_true, not_true_eq_false, b_len (items_lst hn), List.length_map]
  refine ⟨fun j st2 hj p2 _ => ?_, fun _ _ _ _ _ _ _ h => h, fun acc st1 p1 hD hP => ?_⟩
  · have hn' := get_pre p2 hn
    have hnj : (N.map V.str)[j]? = some (.str (N.getD j "")) := by
      rw [List.getElem?_map, List.getD_eq_getElem?_getD, List.getElem?_eq_getElem hj]
      rfl
    unfold TurnP
    simp only [L2.wipe]
    simp only [z_seq, z_ifs, z_asgN, z_ret, z_retN, z_don, z_drop, w_var, w_cst, w_bin, w_not, w_and, w_or, w_cmp, w_ife, w_cons, w_nil, w_som, w_tup, w_lst, w_call, w_bif, w_isi, w_idx, List.getElem?_cons_succ, List.getElem?_cons_zero, Option.some.injEq, exists_eq_left', tr_bl, tr_some, c_eqI, c_neI, c_eqS, c_neS, c_lt, c_le, c_gt, c_ge, c_is, c_isnot, o_add, o_sub, List.set_cons_zero, List.set_cons_succ, List.length_cons, List.length_nil, Nat.reduceAdd, Nat.reduceLT, Nat.zero_add, true_and, decide_eq_true_eq, decide_eq_false_iff_not, Bool.not_eq_true', Bool.not_eq_false', Bool.false_eq_true, Bool.true_eq_false, true_implies, false_implies, and_true, Nat.lt_add_one, reduceCtorEq, decide_true, decide_false, not_false_eq_true, not_true_eq_false, o_div (show (0 : Int) < (j : Int) + 1 by omega) (show (j : Int) + 1 < 1073741824 by omega), o_mod (show (0 : Int) < 3 by decide)]
    refine ⟨List.prefix_refl _, rfl, fun _ => ?_⟩
    rw [i_at (items_lst hn') (at_nat hnj)]
    exact ⟨List.prefix_refl _, rfl⟩
  · have e1 := paired_fun hP
    have e2 : acc = (pick N m).map V.str := by
      rw [e1]
      unfold pick
      rw [List.map_map]
      rfl
    subst e2
    have ho := pick_ok hN m
    have hpl := ho.len
    generalize pick N m = r at *
    rw [b_len (items_lst hD), List.length_map]
    simp only [z_ifs, z_asgN, z_ret, z_retN, z_don, z_drop, w_var, w_cst, w_bin, w_not, w_and, w_or, w_cmp, w_ife, w_cons, w_nil, w_som, w_tup, w_lst, w_call, w_bif, w_isi, w_idx, List.getElem?_cons_succ, List.getElem?_cons_zero, Option.some.injEq, exists_eq_left', tr_bl, tr_some, c_eqI, c_neI, c_eqS, c_neS, c_lt, c_le, c_gt, c_ge, c_is, c_isnot, o_add, o_sub, List.set_cons_zero, List.set_cons_succ, List.length_cons, List.length_nil, Nat.reduceAdd, Nat.reduceLT, Nat.zero_add, true_and, decide_eq_true_eq, decide_eq_false_iff_not, Bool.not_eq_true', Bool.not_eq_false', Bool.false_eq_true, Bool.true_eq_false, true_implies, false_implies, and_true, Nat.lt_add_one, reduceCtorEq, decide_true, decide_false, not_false_eq_true, not_true_eq_false, o_div (show (0 : Int) < 7 by decide) (show (7 : Int) < 1073741824 by decide)]
    refine ⟨fun _ => hQ st1 _ r p1 (Nat.le_refl _) hD ho, fun h2 => ?_⟩
    have h2 : 2 ≤ r.length := by omega
    rw [b_len (items_lst hD), List.length_map]
    simp only [z_ifs, z_asgN, z_ret, z_retN, z_don, z_drop, w_var, w_cst, w_bin, w_not, w_and, w_or, w_cmp, w_ife, w_cons, w_nil, w_som, w_tup, w_lst, w_call, w_bif, w_isi, w_idx, List.getElem?_cons_succ, List.getElem?_cons_zero, Option.some.injEq, exists_eq_left', tr_bl, tr_some, c_eqI, c_neI, c_eqS, c_neS, c_lt, c_le, c_gt, c_ge, c_is, c_isnot, o_add, o_sub, List.set_cons_zero, List.set_cons_succ, List.length_cons, List.length_nil, Nat.reduceAdd, Nat.reduceLT, Nat.zero_add, true_and, decide_eq_true_eq, decide_eq_false_iff_not, Bool.not_eq_true', Bool.not_eq_false', Bool.false_eq_true, Bool.true_eq_false, true_implies, false_implies, and_true, Nat.lt_add_one, reduceCtorEq, decide_true, decide_false, not_false_eq_true, not_true_eq_false, o_mod (show (0 : Int) < (r.length : Int) - 1 by omega), o_mod (show (0 : Int) < 6 by decide), o_mod (show (0 : Int) < 36 by decide)]
    obtain ⟨a, ea⟩ : ∃ a : Nat, m / 7 % ((r.length : Int) - 1) = (a : Int) := ⟨(m / 7 % ((r.length : Int) - 1)).toNat, by
      have := Int.emod_nonneg (m / 7) (show (r.length : Int) - 1 ≠ 0 by omega)
      omega⟩
    have ha : (a : Int) < (r.length : Int) - 1 := by
      rw [← ea]
      exact Int.emod_lt_of_pos _ (by omega)
    rw [ea]
    have ha1 : a + 1 < r.length := by omega
    have c1 : (a : Int) + 1 = ((a + 1 : Nat) : Int) := rfl
    have c2 : (a : Int) + 2 = ((a + 2 : Nat) : Int) := rfl
    have g0 : (r.map V.str)[a]? = some (.str r[a]) := by rw [List.getElem?_map, List.getElem?_eq_getElem (by omega)]; rfl
    have g1 : (r.map V.str)[a + 1]? = some (.str r[a + 1]) := by rw [List.getElem?_map, List.getElem?_eq_getElem ha1]; rfl
    have hrl : r.length ≤ 100 := by omega
    have hml : (r.map V.str).length ≤ 100 := by rw [List.length_map]; exact hrl
    refine ⟨fun _ => ?_, fun _ => ⟨fun _ => ?_, fun _ => ⟨fun _ => ?_, fun _ => hQ st1 _ r p1 (Nat.le_refl _) hD ho⟩⟩⟩
    · -- two neighbours exchanged
      simp only [z_ifs, z_asgN, z_ret, z_retN, z_don, z_drop, w_var, w_cst, w_bin, w_not, w_and, w_or, w_cmp, w_ife, w_cons, w_nil, w_som, w_tup, w_lst, w_call, w_bif, w_isi, w_idx, List.getElem?_cons_succ, List.getElem?_cons_zero, Option.some.injEq, exists_eq_left', tr_bl, tr_some, c_eqI, c_neI, c_eqS, c_neS, c_lt, c_le, c_gt, c_ge, c_is, c_isnot, o_add, o_sub, List.set_cons_zero, List.set_cons_succ, List.length_cons, List.length_nil, Nat.reduceAdd, Nat.reduceLT, Nat.zero_add, true_and, decide_eq_true_eq, decide_eq_false_iff_not, Bool.not_eq_true', Bool.not_eq_false', Bool.false_eq_true, Bool.true_eq_false, true_implies, false_implies, and_true, Nat.lt_add_one, reduceCtorEq, decide_true, decide_false, not_false_eq_true, not_true_eq_false, w_slc, part0, part1, s_lst hD, cut_to, c1]
      have q1 : st1 <+: st1 ++ [Mi.IO.lst ((r.map V.str).take a)] := List.prefix_append _ _
      have hD1 := get_pre q1 hD
      rw [i_at (items_lst hD1) (at_nat g1), i_at (items_lst hD1) (at_nat g0)]
      refine ⟨szl (by decide), ?_⟩
      rw [o_addL (get_pre (List.prefix_append _ _) get_new) get_new (by rw [List.length_take]; simp; omega)]
      have q2 := q1.trans (List.prefix_append _ [Mi.IO.lst [.str r[a + 1], .str r[a]]])
      have q3 := q2.trans (List.prefix_append _ [Mi.IO.lst ((r.map V.str).take a ++ [.str r[a + 1], .str r[a]])])
      simp only [z_ifs, z_asgN, z_ret, z_retN, z_don, z_drop, w_var, w_cst, w_bin, w_not, w_and, w_or, w_cmp, w_ife, w_cons, w_nil, w_som, w_tup, w_lst, w_call, w_bif, w_isi, w_idx, List.getElem?_cons_succ, List.getElem?_cons_zero, Option.some.injEq, exists_eq_left', tr_bl, tr_some, c_eqI, c_neI, c_eqS, c_neS, c_lt, c_le, c_gt, c_ge, c_is, c_isnot, o_add, o_sub, List.set_cons_zero, List.set_cons_succ, List.length_cons, List.length_nil, Nat.reduceAdd, Nat.reduceLT, Nat.zero_add, true_and, decide_eq_true_eq, decide_eq_false_iff_not, Bool.not_eq_true', Bool.not_eq_false', Bool.false_eq_true, Bool.true_eq_false, true_implies, false_implies, and_true, Nat.lt_add_one, reduceCtorEq, decide_true, decide_false, not_false_eq_true, not_true_eq_false, w_slc, part0, part1, s_lst (get_pre q3 hD), c2, cut_from]
      rw [o_addL (get_pre (List.prefix_append _ _) get_new) get_new (by rw [List.length_append, List.length_take, List.length_drop]; simp; omega)]
      have ep : r = r.take a ++ (r[a] :: r[a + 1] :: r.drop (a + 2)) := by
        have e1 := (List.take_append_drop a r).symm
        rw [List.drop_eq_getElem_cons (show a < r.length by omega), List.drop_eq_getElem_cons ha1] at e1
        exact e1
      refine hQ _ _ (r.take a ++ [r[a + 1], r[a]] ++ r.drop (a + 2)) ((p1.trans q3).trans ((List.prefix_append _ _).trans (List.prefix_append _ _))) ?_ ?_ (ho.perm ?_)
      · have := p1.length_le
        simp only [List.length_append]
        omega
      · rw [List.map_append, List.map_append, List.map_take, List.map_drop]
        exact get_new
      · have : (r.take a ++ (r[a] :: r[a + 1] :: r.drop (a + 2))).Perm (r.take a ++ [r[a + 1], r[a]] ++ r.drop (a + 2)) := by
          rw [List.append_assoc]
          exact (List.Perm.swap _ _ _).append_left _
        rw [← ep] at this
        exact this
    · -- turned round
      simp only [z_ifs, z_asgN, z_ret, z_retN, z_don, z_drop, w_var, w_cst, w_bin, w_not, w_and, w_or, w_cmp, w_ife, w_cons, w_nil, w_som, w_tup, w_lst, w_call, w_bif, w_isi, w_idx, List.getElem?_cons_succ, List.getElem?_cons_zero, Option.some.injEq, exists_eq_left', tr_bl, tr_some, c_eqI, c_neI, c_eqS, c_neS, c_lt, c_le, c_gt, c_ge, c_is, c_isnot, o_add, o_sub, List.set_cons_zero, List.set_cons_succ, List.length_cons, List.length_nil, Nat.reduceAdd, Nat.reduceLT, Nat.zero_add, true_and, decide_eq_true_eq, decide_eq_false_iff_not, Bool.not_eq_true', Bool.not_eq_false', Bool.false_eq_true, Bool.true_eq_false, true_implies, false_implies, and_true, Nat.lt_add_one, reduceCtorEq, decide_true, decide_false, not_false_eq_true, not_true_eq_false, w_slc, part0, part1, s_lst hD, cut_from, c1]
      have q1 : st1 <+: st1 ++ [Mi.IO.lst ((r.map V.str).drop (a + 1))] := List.prefix_append _ _
      rw [s_lst (get_pre q1 hD), cut_to]
      rw [o_addL (get_pre (List.prefix_append _ _) get_new) get_new (by rw [List.length_take, List.length_drop]; omega)]
      refine hQ _ _ (r.drop (a + 1) ++ r.take (a + 1)) ((p1.trans q1).trans ((List.prefix_append _ _).trans (List.prefix_append _ _))) ?_ ?_ (ho.perm ?_)
      · have := p1.length_le
        simp only [List.length_append]
        omega
      · rw [List.map_append, List.map_take, List.map_drop]
        exact get_new
      · have := List.perm_append_comm (l₁ := r.take (a + 1)) (l₂ := r.drop (a + 1))
        rw [List.take_append_drop] at this
        exact this
    · -- backwards
      simp only [z_ifs, z_asgN, z_ret, z_retN, z_don, z_drop, w_var, w_cst, w_bin, w_not, w_and, w_or, w_cmp, w_ife, w_cons, w_nil, w_som, w_tup, w_lst, w_call, w_bif, w_isi, w_idx, List.getElem?_cons_succ, List.getElem?_cons_zero, Option.some.injEq, exists_eq_left', tr_bl, tr_some, c_eqI, c_neI, c_eqS, c_neS, c_lt, c_le, c_gt, c_ge, c_is, c_isnot, o_add, o_sub, List.set_cons_zero, List.set_cons_succ, List.length_cons, List.length_nil, Nat.reduceAdd, Nat.reduceLT, Nat.zero_add, true_and, decide_eq_true_eq, decide_eq_false_iff_not, Bool.not_eq_true', Bool.not_eq_false', Bool.false_eq_true, Bool.true_eq_false, true_implies, false_implies, and_true, Nat.lt_add_one, reduceCtorEq, decide_true, decide_false, not_false_eq_true, not_true_eq_false, w_rsl]
      refine ⟨_, lstOf_at hD, ?_⟩
      refine hQ _ _ r.reverse (p1.trans (List.prefix_append _ _)) p1.length_le ?_ (ho.perm (List.reverse_perm _).symm)
      rw [List.map_reverse]
      exact get_new
end Mk03
set_option maxHeartbeats 400000
/-! k03: the plain law, the merged row is right. -/
namespace Mk03
open PySem PySem.Spec PyProof.Rows L2 Mi
variable {Q Rt : V → Store → Prop} {st : Store} {d : Nat} {md : Bool}
theorem fn__law_texts : D.pg.fn "_law_texts" = some f__law_texts := by rfl
theorem fn__law_behind : D.pg.fn "_law_behind" = some f__law_behind := by rfl
theorem fn__law_row_right : D.pg.fn "_law_row_right" = some f__law_row_right := by rfl
theorem ty_tup {p : Nat} {xs : List V} (h : st[p]? = some (.tup xs)) : isTy (.ref p) st = some .tuple := by simp [isTy, h]
theorem ty_lst {p : Nat} {xs : List V} (h : st[p]? = some (.lst xs)) : isTy (.ref p) st = some .list := by simp [isTy, h]
theorem ty_str {s : Str} : isTy (.str s) st = some .str := rfl
theorem all_true {n : Nat} : (List.range n).filter (fun _ => true) = List.range n := by simp
theorem texts_ok {p : Nat} {L : List Str} (h : st[p]? = some (.lst (L.map V.str))) (hl : L.length ≤ 100000) (hQ : ∀ st', st <+: st' → Q (.bl true) st') : wv (callN D.pg (d + 1) md "_law_texts" [.ref p] st) Q := by
  refine callN_w fn__law_texts rfl ?_
  rw [show f__law_texts.body = b__law_texts from rfl, show start f__law_texts.N [V.ref p] = [some (V.ref p), none] from rfl, b__law_texts]
  simp only [z_seq, z_ifs, z_asgN, z_ret, z_retN, z_don, z_drop, w_var, w_cst, w_bin, w_not, w_and, w_or, w_cmp, w_ife, w_cons, w_nil, w_som, w_tup, w_lst, w_call, w_bif, w_isi, w_idx, List.getElem?_cons_succ, List.getElem?_cons_zero, Option.some.injEq, exists_eq_left', tr_bl, tr_some, c_eqI, c_neI, c_eqS, c_neS, c_lt, c_le, c_gt, c_ge, c_is, c_isnot, o_add, o_sub, List.set_cons_zero, List.set_cons_succ, List.length_cons, List.length_nil, Nat.reduceAdd, Nat.reduceLT, Nat.zero_add, true_and, decide_eq_true_eq, decide_eq_false_iff_not, Bool.not_eq_true', Bool.not_eq_false', Bool.false_eq_true, Bool.true_eq_false, true_implies, false_implies, and_true, Nat.lt_add_one, reduceCtorEq, decide_true, decide_false, not_false_eq_true, not_true_eq_false, w_and]
  refine ⟨_, ty_lst h, ?_⟩
  rw [show subTy .list .list = true from rfl]
  simp only [z_seq, z_ifs, z_asgN, z_ret, z_retN, z_don, z_drop, w_var, w_cst, w_bin, w_not, w_and, w_or, w_cmp, w_ife, w_cons, w_nil, w_som, w_tup, w_lst, w_call, w_bif, w_isi, w_idx, List.getElem?_cons_succ, List.getElem?_cons_zero, Option.some.injEq, exists_eq_left', tr_bl, tr_some, c_eqI, c_neI, c_eqS, c_neS, c_lt, c_le, c_gt, c_ge, c_is, c_isnot, o_add, o_sub, List.set_cons_zero, List.set_cons_succ, List.length_cons, List.length_nil, Nat.reduceAdd, Nat.reduceLT, Nat.zero_add, true_and, decide_eq_true_eq, decide_eq_false_iff_not, Bool.not_eq_true', Bool.not_eq_false', Bool.false_eq_true, Bool.true_eq_false, true_implies, false_implies, and_true, Nat.lt_add_one, reduceCtorEq, decide_true, decide_false, not_false_eq_true, not_true_eq_false]
  refine lc_genS .l (fun _ => true) (fun _ _ y => y = .bl true) (by simp [L2.wipe]) ?_
  simp only [z_seq, z_ifs, z_asgN, z_ret, z_retN, z_don, z_drop, w_var, w_cst, w_bin, w_not, w_and, w_or, w_cmp, w_ife, w_cons, w_nil, w_som, w_tup, w_lst, w_call, w_bif, w_isi, w_idx, List.getElem?_cons_succ, List.getElem?_cons_zero, Option.some.injEq, exists_eq_left', tr_bl, tr_some, c_eqI, c_neI, c_eqS, c_neS, c_lt, c_le, c_gt, c_ge, c_is, c_isnot, o_add, o_sub, List.set_cons_zero, List.set_cons_succ, List.length_cons, List.length_nil, Nat.reduceAdd, Nat.reduceLT, Nat.zero_add, true_and, decide_eq_true_eq, decide_eq_false_iff_not, Bool.not_eq_true', Bool.not_eq_false', Bool.false_eq_true, Bool.true_eq_false, true_implies, false_implies, and_true, Nat.lt_add_one, reduceCtorEq, decide_true, decide_false, not_false_eq_true, not_true_eq_false]
  refine ⟨p, _, rfl, h, by rw [List.length_map]; omega, fun j x st2 hx p2 _ => ?_, fun _ _ _ _ _ _ _ h => h, fun acc st1 p1 hD hP => ?_⟩
  · rw [List.getElem?_map] at hx
    obtain ⟨s, _, rfl⟩ := Option.map_eq_some_iff.mp hx
    refine ⟨rfl, ?_⟩
    simp only [L2.wipe]
    simp only [z_seq, z_ifs, z_asgN, z_ret, z_retN, z_don, z_drop, w_var, w_cst, w_bin, w_not, w_and, w_or, w_cmp, w_ife, w_cons, w_nil, w_som, w_tup, w_lst, w_call, w_bif, w_isi, w_idx, List.getElem?_cons_succ, List.getElem?_cons_zero, Option.some.injEq, exists_eq_left', tr_bl, tr_some, c_eqI, c_neI, c_eqS, c_neS, c_lt, c_le, c_gt, c_ge, c_is, c_isnot, o_add, o_sub, List.set_cons_zero, List.set_cons_succ, List.length_cons, List.length_nil, Nat.reduceAdd, Nat.reduceLT, Nat.zero_add, true_and, decide_eq_true_eq, decide_eq_false_iff_not, Bool.not_eq_true', Bool.not_eq_false', Bool.false_eq_true, Bool.true_eq_false, true_implies, false_implies, and_true, Nat.lt_add_one, reduceCtorEq, decide_true, decide_false, not_false_eq_true, not_true_eq_false]
    exact ⟨_, ty_str, List.prefix_refl _, rfl⟩
  · rw [all_true] at hP
    have e1 := paired_fun (f := fun _ => V.bl true) hP
    rw [e1, List.map_const'] at hD
    rw [b_all hD]
    exact hQ _ p1
section
variable {r X : Nat} {rv : List V} {rows : List (List Str)}
theorem law_behind_ok {name : Str} (hr : st[r]? = some (.lst rv)) (hR : Paired (ListN X st) rv rows) (hl : rows.length ≤ 1000) (hQ : ∀ st', st <+: st' → Q (.bl (behind rows name)) st') : wv (callN D.pg (d + 1) md "_law_behind" [.ref r, .str name] st) Q := by
  have hrl := Mi.P.length hR
  refine callN_w fn__law_behind rfl ?_
  rw [show f__law_behind.body = b__law_behind from rfl, show start f__law_behind.N [V.ref r, V.str name] = [some (V.ref r), some (V.str name), none] from rfl, b__law_behind]
  simp only [z_seq, z_ifs, z_asgN, z_ret, z_retN, z_don, z_drop, w_var, w_cst, w_bin, w_not, w_and, w_or, w_cmp, w_ife, w_cons, w_nil, w_som, w_tup, w_lst, w_call, w_bif, w_isi, w_idx, List.getElem?_cons_succ, List.getElem?_cons_zero, Option.some.injEq, exists_eq_left', tr_bl, tr_some, c_eqI, c_neI, c_eqS, c_neS, c_lt, c_le, c_gt, c_ge, c_is, c_isnot, o_add, o_sub, List.set_cons_zero, List.set_cons_succ, List.length_cons, List.length_nil, Nat.reduceAdd, Nat.reduceLT, Nat.zero_add, true_and, decide_eq_true_eq, decide_eq_false_iff_not, Bool.not_eq_true', Bool.not_eq_false', Bool.false_eq_true, Bool.true_eq_false, true_implies, false_implies, and_true, Nat.lt_add_one, reduceCtorEq, decide_true, decide_false, not_false_eq_true, not_true_eq_false]
  refine lc_genS .l (fun _ => true) (fun j _ y => y = .bl (decide (name ∈ (rows.getD j []).drop 1))) (by simp [L2.wipe]) ?_
  simp only [z_seq, z_ifs, z_asgN, z_ret, z_retN, z_don, z_drop, w_var, w_cst, w_bin, w_not, w_and, w_or, w_cmp, w_ife, w_cons, w_nil, w_som, w_tup, w_lst, w_call, w_bif, w_isi, w_idx, List.getElem?_cons_succ, List.getElem?_cons_zero, Option.some.injEq, exists_eq_left', tr_bl, tr_some, c_eqI, c_neI, c_eqS, c_neS, c_lt, c_le, c_gt, c_ge, c_is, c_isnot, o_add, o_sub, List.set_cons_zero, List.set_cons_succ, List.length_cons, List.length_nil, Nat.reduceAdd, Nat.reduceLT, Nat.zero_add, true_and, decide_eq_true_eq, decide_eq_false_iff_not, Bool.not_eq_true', Bool.not_eq_false', Bool.false_eq_true, Bool.true_eq_false, true_implies, false_implies, and_true, Nat.lt_add_one, reduceCtorEq, decide_true, decide_false, not_false_eq_true, not_true_eq_false]
  refine ⟨r, _, rfl, hr, by omega, fun j x st2 hx p2 _ => ?_, fun _ _ _ _ _ _ _ h => h, fun acc st1 p1 hD hP => ?_⟩
  · obtain ⟨row, hrow, p, rfl, _, hp⟩ := Mi.P.get hR hx
    have hp2 := get_pre p2 hp
    have eg : rows.getD j [] = row := by rw [List.getD_eq_getElem?_getD, hrow]; rfl
    refine ⟨rfl, ?_⟩
    simp only [L2.wipe]
    rw [eg]
    simp only [z_seq, z_ifs, z_asgN, z_ret, z_retN, z_don, z_drop, w_var, w_cst, w_bin, w_not, w_and, w_or, w_cmp, w_ife, w_cons, w_nil, w_som, w_tup, w_lst, w_call, w_bif, w_isi, w_idx, List.getElem?_cons_succ, List.getElem?_cons_zero, Option.some.injEq, exists_eq_left', tr_bl, tr_some, c_eqI, c_neI, c_eqS, c_neS, c_lt, c_le, c_gt, c_ge, c_is, c_isnot, o_add, o_sub, List.set_cons_zero, List.set_cons_succ, List.length_cons, List.length_nil, Nat.reduceAdd, Nat.reduceLT, Nat.zero_add, true_and, decide_eq_true_eq, decide_eq_false_iff_not, Bool.not_eq_true', Bool.not_eq_false', Bool.false_eq_true, Bool.true_eq_false, true_implies, false_implies, and_true, Nat.lt_add_one, reduceCtorEq, decide_true, decide_false, not_false_eq_true, not_true_eq_false, w_slc, part0, part1, s_lst hp2, cut_str]
    rw [in_ok' (items_lst get_new) flat_str, inV_str]
    exact ⟨List.prefix_append _ _, rfl⟩
  · rw [all_true, hrl] at hP
    have e1 := paired_fun hP
    have e2 : acc = (rows.map fun r => decide (name ∈ r.drop 1)).map V.bl := by
      rw [e1, List.map_map]
      refine map_range_get fun j x h => ?_
      have eg : rows.getD j [] = x := by rw [List.getD_eq_getElem?_getD, h]; rfl
      rw [eg]
      rfl
    rw [e2] at hD
    rw [b_any hD]
    have e3 : (rows.map fun r => decide (name ∈ r.drop 1)).any id = behind rows name := by
      rw [List.any_map]
      rfl
    rw [e3]
    exact hQ _ p1
/-- the first names that stand behind nobody -/
def firsts (all rows : List (List Str)) : List Str := (rows.filter fun r => decide (r ≠ []) && !behind all (r.headD "")).map fun r => r.headD ""
theorem firsts_head {all : List (List Str)} : ∀ {rows : List (List Str)}, (firsts all rows).head? = nextN all rows
  | [] => rfl
  | [] :: rs => by
    have := firsts_head (all := all) (rows := rs)
    unfold firsts nextN
    have e : (decide (([] : List Str) ≠ []) && !behind all (([] : List Str).headD "")) = false := by simp
    rw [List.filter_cons, e]
    exact this
  | (x :: xs) :: rs => by
    have := firsts_head (all := all) (rows := rs)
    unfold firsts nextN
    have e : (decide ((x :: xs) ≠ []) && !behind all ((x :: xs).headD "")) = !behind all x := by simp
    rw [List.filter_cons, e]
    cases hb : behind all x with
    | false => rfl
    | true => exact this
theorem filter_off {x : Str} {rows : List (List Str)} (hb : behind rows x = false) : ∀ row ∈ rows, row.filter (fun y => !decide (y = x)) = offN x row := fun row hr => by
  have hn := List.any_eq_false.mp hb row hr
  cases row with
  | nil => rfl
  | cons y ys =>
    have hys : x ∉ ys := by simpa using hn
    have hf : ys.filter (fun y => !decide (y = x)) = ys := List.filter_eq_self.mpr fun z hz => by
      have : z ≠ x := fun e => hys (e ▸ hz)
      simp [this]
    unfold offN
    rw [List.filter_cons]
    by_cases e : y = x
    · simp [e, hf]
    · simp [e, hf]
/-- the heads that stand behind nobody -/
theorem firsts_lc {st1 : Store} {e : Ev} {v : Nat} {own : List Nat} {Q : V → Store → Prop} {w : Nat} (hv : v < (L2.wipe e own).length) (hw : e[w]? = some (some (.ref r))) (hwv : w ≠ v) (hwo : (L2.wipe e own)[w]? = some (some (.ref r)))
    (hr : st1[r]? = some (.lst rv)) (hR : Paired (ListN X st1) rv rows) (hl : rows.length ≤ 1000)
    (hQ : ∀ st2, st1 <+: st2 → st2[st1.length]? = some (.lst ((firsts rows rows).map V.str)) → Q (.ref st1.length) st2) :
    wv (run D.pg (callN D.pg (d + 1)) (.lc own (.n v) .seq (.var w) (.som (.and (.var v) (.not (.call "_law_behind" (.cons (.var w) (.cons (.idx (.var v) (.cst (.int 0))) .nil)))))) (.idx (.var v) (.cst (.int 0)))) (.on md) e st1) Q := by
  have hrl := Mi.P.length hR
  refine lc_genS .l (fun j => decide (rows.getD j [] ≠ []) && !behind rows ((rows.getD j []).headD "")) (fun j _ y => y = .str ((rows.getD j []).headD "")) hv ?_
  simp only [z_seq, z_ifs, z_asgN, z_ret, z_retN, z_don, z_drop, w_var, w_cst, w_bin, w_not, w_and, w_or, w_cmp, w_ife, w_cons, w_nil, w_som, w_tup, w_lst, w_call, w_bif, w_isi, w_idx, List.getElem?_cons_succ, List.getElem?_cons_zero, Option.some.injEq, exists_eq_left', tr_bl, tr_some, c_eqI, c_neI, c_eqS, c_neS, c_lt, c_le, c_gt, c_ge, c_is, c_isnot, o_add, o_sub, List.set_cons_zero, List.set_cons_succ, List.length_cons, List.length_nil, Nat.reduceAdd, Nat.reduceLT, Nat.zero_add, true_and, decide_eq_true_eq, decide_eq_false_iff_not, Bool.not_eq_true', Bool.not_eq_false', Bool.false_eq_true, Bool.true_eq_false, true_implies, false_implies, and_true, Nat.lt_add_one, reduceCtorEq, decide_true, decide_false, not_false_eq_true, not_true_eq_false]
  refine ⟨_, hw, r, rv, rfl, hr, by omega, fun j x st3 hx p3 _ => ?_, fun _ _ _ _ _ _ _ h => h, fun acc st3 p3 hD hP => ?_⟩
  · obtain ⟨row, hrow, p, rfl, _, hp⟩ := Mi.P.get hR hx
    have hp3 := get_pre p3 hp
    have hr3 := get_pre p3 hr
    have eg : rows.getD j [] = row := by rw [List.getD_eq_getElem?_getD, hrow]; rfl
    have hself : ((L2.wipe e own).set v (some (V.ref p)))[v]? = some (some (V.ref p)) := List.getElem?_set_self hv
    have hwl : ((L2.wipe e own).set v (some (V.ref p)))[w]? = some (some (V.ref r)) := by rw [List.getElem?_set_ne hwv.symm]; exact hwo
    unfold TurnP
    simp only [eg]
    simp only [z_seq, z_ifs, z_asgN, z_ret, z_retN, z_don, z_drop, w_var, w_cst, w_bin, w_not, w_and, w_or, w_cmp, w_ife, w_cons, w_nil, w_som, w_tup, w_lst, w_call, w_bif, w_isi, w_idx, List.getElem?_cons_succ, List.getElem?_cons_zero, Option.some.injEq, exists_eq_left', tr_bl, tr_some, c_eqI, c_neI, c_eqS, c_neS, c_lt, c_le, c_gt, c_ge, c_is, c_isnot, o_add, o_sub, List.set_cons_zero, List.set_cons_succ, List.length_cons, List.length_nil, Nat.reduceAdd, Nat.reduceLT, Nat.zero_add, true_and, decide_eq_true_eq, decide_eq_false_iff_not, Bool.not_eq_true', Bool.not_eq_false', Bool.false_eq_true, Bool.true_eq_false, true_implies, false_implies, and_true, Nat.lt_add_one, reduceCtorEq, decide_true, decide_false, not_false_eq_true, not_true_eq_false, w_and]
    refine ⟨_, hself, ?_⟩
    simp only [z_seq, z_ifs, z_asgN, z_ret, z_retN, z_don, z_drop, w_var, w_cst, w_bin, w_not, w_and, w_or, w_cmp, w_ife, w_cons, w_nil, w_som, w_tup, w_lst, w_call, w_bif, w_isi, w_idx, List.getElem?_cons_succ, List.getElem?_cons_zero, Option.some.injEq, exists_eq_left', tr_bl, tr_some, c_eqI, c_neI, c_eqS, c_neS, c_lt, c_le, c_gt, c_ge, c_is, c_isnot, o_add, o_sub, List.set_cons_zero, List.set_cons_succ, List.length_cons, List.length_nil, Nat.reduceAdd, Nat.reduceLT, Nat.zero_add, true_and, decide_eq_true_eq, decide_eq_false_iff_not, Bool.not_eq_true', Bool.not_eq_false', Bool.false_eq_true, Bool.true_eq_false, true_implies, false_implies, and_true, Nat.lt_add_one, reduceCtorEq, decide_true, decide_false, not_false_eq_true, not_true_eq_false, tr_lst hp3]
    cases row with
    | nil =>
      refine ⟨fun h => absurd rfl h, fun _ => ⟨List.prefix_refl _, ?_, fun h => by simp at h⟩⟩
      simp [truth, hp3]
    | cons a as =>
      refine ⟨fun _ => ?_, fun h => nomatch h⟩
      refine ⟨_, hwl, _, hself, ?_⟩
      rw [i_at (items_lst hp3) at0]
      refine law_behind_ok hr3 (Paired.mono (fun _ _ h => h.pre p3) hR) hl fun st4 p4 => ?_
      have eh : (a :: as).headD "" = a := rfl
      have en : decide ((a :: as) ≠ []) = true := decide_eq_true (by simp)
      rw [eh, en, Bool.true_and]
      rw [tr_bl]
      have hp4 := get_pre p4 hp3
      cases behind rows a with
      | true => exact ⟨fun _ => ⟨p4, rfl, (fun h => nomatch h)⟩, (fun h => nomatch h)⟩
      | false =>
        refine ⟨(fun h => nomatch h), fun _ => ⟨p4, rfl, fun _ => ⟨_, hself, ?_⟩⟩⟩
        rw [i_at (items_lst hp4) at0]
        exact ⟨List.prefix_refl _, rfl⟩
  · have e1 := paired_fun hP
    have e2 : ((List.range rv.length).filter fun j => decide (rows.getD j [] ≠ []) && !behind rows ((rows.getD j []).headD "")).map (fun j => V.str ((rows.getD j []).headD "")) = (firsts rows rows).map V.str := by
      rw [hrl]
      unfold firsts
      rw [List.map_map]
      refine filter_range_get (l := rows) (p := fun r => decide (r ≠ []) && !behind rows (r.headD "")) (g := V.str ∘ fun r => r.headD "") fun j x h => ?_
      have eg : rows.getD j [] = x := by rw [List.getD_eq_getElem?_getD, h]; rfl
      rw [eg]
      exact ⟨rfl, rfl⟩
    rw [e1, e2] at hD
    exact hQ st3 p3 hD
theorem off_lc {cf : Bool → Str → List V → Store → R} {st1 : Store} {e : Ev} {v : Nat} {own own2 : List Nat} {Q : V → Store → Prop} {w u n : Nat} {name : Str} (hv : v < (L2.wipe e own).length) (hvu : v ≠ u) (huw : u ≠ w)
    (hw : e[n]? = some (some (.ref r))) (he : ∀ x, (L2.wipe ((L2.wipe e own).set v x) own2)[v]? = some x) (hn : ∀ x, (L2.wipe ((L2.wipe e own).set v x) own2)[w]? = some (some (.str name))) (hu : ∀ x, u < (L2.wipe ((L2.wipe e own).set v x) own2).length)
    (hr : st1[r]? = some (.lst rv)) (hR : Paired (ListN X st1) rv rows) (hl : rows.length ≤ 1000) (hl2 : ∀ row ∈ rows, row.length ≤ 100000) (hb : behind rows name = false)
    (hQ : ∀ st2 lv, st1 <+: st2 → st2[st1.length]? = some (.lst lv) → Paired (fun v xs => ∃ p, v = .ref p ∧ st1.length < p ∧ st2[p]? = some (.lst (xs.map V.str))) lv (rows.map (offN name)) → Q (.ref st1.length) st2) :
    wv (run D.pg cf (.lc own (.n v) .seq (.var n) .nil (.lc own2 (.n u) .seq (.var v) (.som (.cmp .NotEq (.var u) (.var w))) (.var u))) (.on md) e st1) Q := by
  have hrl := Mi.P.length hR
  refine lc_genS .l (fun _ => true) (fun j st2 y => ∃ p row, rows[j]? = some row ∧ y = .ref p ∧ st1.length < p ∧ st2[p]? = some (.lst ((offN name row).map V.str))) hv ?_
  simp only [z_seq, z_ifs, z_asgN, z_ret, z_retN, z_don, z_drop, w_var, w_cst, w_bin, w_not, w_and, w_or, w_cmp, w_ife, w_cons, w_nil, w_som, w_tup, w_lst, w_call, w_bif, w_isi, w_idx, List.getElem?_cons_succ, List.getElem?_cons_zero, Option.some.injEq, exists_eq_left', tr_bl, tr_some, c_eqI, c_neI, c_eqS, c_neS, c_lt, c_le, c_gt, c_ge, c_is, c_isnot, o_add, o_sub, List.set_cons_zero, List.set_cons_succ, List.length_cons, List.length_nil, Nat.reduceAdd, Nat.reduceLT, Nat.zero_add, true_and, decide_eq_true_eq, decide_eq_false_iff_not, Bool.not_eq_true', Bool.not_eq_false', Bool.false_eq_true, Bool.true_eq_false, true_implies, false_implies, and_true, Nat.lt_add_one, reduceCtorEq, decide_true, decide_false, not_false_eq_true, not_true_eq_false]
  refine ⟨_, hw, r, rv, rfl, hr, by omega, fun j x st3 hx p3 l3 => ?_, ?_, fun acc st3 p3 hD hP => ?_⟩
  · obtain ⟨row, hrow, p, rfl, _, hp⟩ := Mi.P.get hR hx
    have hp3 := get_pre p3 hp
    refine ⟨rfl, ?_⟩
    have hrl2 := hl2 row (List.mem_of_getElem? hrow)
    refine lc_genS .l (fun j => !decide (row.getD j "" = name)) (fun j _ y => y = .str (row.getD j "")) (hu _) ?_
    have hself : ((L2.wipe e own).set v (some (V.ref p)))[v]? = some (some (V.ref p)) := List.getElem?_set_self hv
    rw [w_var]
    refine ⟨_, hself, p, _, rfl, hp3, by rw [List.length_map]; omega, fun i x st4 hx p4 _ => ?_, fun _ _ _ _ _ _ _ h => h, fun acc st4 p4 hD hP => ?_⟩
    · rw [List.getElem?_map] at hx
      obtain ⟨s, hs, rfl⟩ := Option.map_eq_some_iff.mp hx
      have eg : row.getD i "" = s := by rw [List.getD_eq_getElem?_getD, hs]; rfl
      have hself2 := List.getElem?_set_self (a := some (V.str s)) (hu (some (V.ref p)))
      have hname2 : ((L2.wipe ((L2.wipe e own).set v (some (V.ref p))) own2).set u (some (V.str s)))[w]? = some (some (V.str name)) := by rw [List.getElem?_set_ne huw]; exact hn _
      unfold TurnP
      simp only [eg]
      simp only [z_seq, z_ifs, z_asgN, z_ret, z_retN, z_don, z_drop, w_var, w_cst, w_bin, w_not, w_and, w_or, w_cmp, w_ife, w_cons, w_nil, w_som, w_tup, w_lst, w_call, w_bif, w_isi, w_idx, List.getElem?_cons_succ, List.getElem?_cons_zero, Option.some.injEq, exists_eq_left', tr_bl, tr_some, c_eqI, c_neI, c_eqS, c_neS, c_lt, c_le, c_gt, c_ge, c_is, c_isnot, o_add, o_sub, List.set_cons_zero, List.set_cons_succ, List.length_cons, List.length_nil, Nat.reduceAdd, Nat.reduceLT, Nat.zero_add, true_and, decide_eq_true_eq, decide_eq_false_iff_not, Bool.not_eq_true', Bool.not_eq_false', Bool.false_eq_true, Bool.true_eq_false, true_implies, false_implies, and_true, Nat.lt_add_one, reduceCtorEq, decide_true, decide_false, not_false_eq_true, not_true_eq_false]
      refine ⟨_, hself2, _, hname2, ?_⟩
      simp only [z_seq, z_ifs, z_asgN, z_ret, z_retN, z_don, z_drop, w_var, w_cst, w_bin, w_not, w_and, w_or, w_cmp, w_ife, w_cons, w_nil, w_som, w_tup, w_lst, w_call, w_bif, w_isi, w_idx, List.getElem?_cons_succ, List.getElem?_cons_zero, Option.some.injEq, exists_eq_left', tr_bl, tr_some, c_eqI, c_neI, c_eqS, c_neS, c_lt, c_le, c_gt, c_ge, c_is, c_isnot, o_add, o_sub, List.set_cons_zero, List.set_cons_succ, List.length_cons, List.length_nil, Nat.reduceAdd, Nat.reduceLT, Nat.zero_add, true_and, decide_eq_true_eq, decide_eq_false_iff_not, Bool.not_eq_true', Bool.not_eq_false', Bool.false_eq_true, Bool.true_eq_false, true_implies, false_implies, and_true, Nat.lt_add_one, reduceCtorEq, decide_true, decide_false, not_false_eq_true, not_true_eq_false]
      exact ⟨List.prefix_refl _, rfl, fun _ => ⟨_, hself2, List.prefix_refl _, rfl⟩⟩
    · have e1 := paired_fun hP
      have e2 : ((List.range (row.map V.str).length).filter fun j => !decide (row.getD j "" = name)).map (fun j => V.str (row.getD j "")) = (offN name row).map V.str := by
        rw [List.length_map, ← filter_off hb row (List.mem_of_getElem? hrow)]
        refine filter_range_get (l := row) (p := fun y => !decide (y = name)) (g := V.str) fun j x h => ?_
        have eg : row.getD j "" = x := by rw [List.getD_eq_getElem?_getD, h]; rfl
        rw [eg]
        exact ⟨rfl, rfl⟩
      rw [e1, e2] at hD
      exact ⟨p4, _, row, hrow, rfl, l3, hD⟩
  · rintro j st2 st3 y hj p2 hb ⟨p, row, h1, h2, h3, h4⟩
    exact ⟨p, row, h1, h2, h3, hb.get h4 (by omega)⟩
  · have hml : (rows.map (offN name)).length = rv.length := by rw [List.length_map, hrl]
    rw [all_true, ← hml] at hP
    refine hQ st3 acc p3 hD (paired_range hP ?_)
    rintro j row y hrow ⟨p, row', h1, h2, h3, h4⟩
    rw [List.getElem?_map, h1] at hrow
    cases hrow
    exact ⟨p, h2, h3, h4⟩
end
/-- the merged row is right -/
theorem row_right_ok {r f : Nat} {rv : List V} {rows : List (List Str)} {L : List Str} {X0 : Nat} (hr : st[r]? = some (.lst rv)) (hR : Paired (ListN X0 st) rv rows) (hf : st[f]? = some (.lst (L.map V.str))) (hfl : L.length ≤ 100000) (hl : rows.length ≤ 1000) (hl2 : ∀ row ∈ rows, row.length ≤ 100000) (hM : Mg rows L)
    (hQ : ∀ st', st <+: st' → Q (.bl true) st') : wv (callN D.pg (d + 2) md "_law_row_right" [.ref r, .ref f] st) Q := by
  refine callN_w fn__law_row_right rfl ?_
  rw [show f__law_row_right.body = b__law_row_right from rfl, show start f__law_row_right.N [V.ref r, V.ref f] = [some (V.ref r), some (V.ref f), none, none, none, none, none] from rfl, b__law_row_right]
  simp only [z_seq, z_ifs, z_asgN, z_ret, z_retN, z_don, z_drop, w_var, w_cst, w_bin, w_not, w_and, w_or, w_cmp, w_ife, w_cons, w_nil, w_som, w_tup, w_lst, w_call, w_bif, w_isi, w_idx, List.getElem?_cons_succ, List.getElem?_cons_zero, Option.some.injEq, exists_eq_left', tr_bl, tr_some, c_eqI, c_neI, c_eqS, c_neS, c_lt, c_le, c_gt, c_ge, c_is, c_isnot, o_add, o_sub, List.set_cons_zero, List.set_cons_succ, List.length_cons, List.length_nil, Nat.reduceAdd, Nat.reduceLT, Nat.zero_add, true_and, decide_eq_true_eq, decide_eq_false_iff_not, Bool.not_eq_true', Bool.not_eq_false', Bool.false_eq_true, Bool.true_eq_false, true_implies, false_implies, and_true, Nat.lt_add_one, reduceCtorEq, decide_true, decide_false, not_false_eq_true, not_true_eq_false]
  refine texts_ok hf hfl fun st1 p1 => ?_
  simp only [z_seq, z_ifs, z_asgN, z_ret, z_retN, z_don, z_drop, w_var, w_cst, w_bin, w_not, w_and, w_or, w_cmp, w_ife, w_cons, w_nil, w_som, w_tup, w_lst, w_call, w_bif, w_isi, w_idx, List.getElem?_cons_succ, List.getElem?_cons_zero, Option.some.injEq, exists_eq_left', tr_bl, tr_some, c_eqI, c_neI, c_eqS, c_neS, c_lt, c_le, c_gt, c_ge, c_is, c_isnot, o_add, o_sub, List.set_cons_zero, List.set_cons_succ, List.length_cons, List.length_nil, Nat.reduceAdd, Nat.reduceLT, Nat.zero_add, true_and, decide_eq_true_eq, decide_eq_false_iff_not, Bool.not_eq_true', Bool.not_eq_false', Bool.false_eq_true, Bool.true_eq_false, true_implies, false_implies, and_true, Nat.lt_add_one, reduceCtorEq, decide_true, decide_false, not_false_eq_true, not_true_eq_false]
  refine copy_lc (r := r) (X := X0) (by simp [L2.wipe]) (by simp only [z_seq, z_ifs, z_asgN, z_ret, z_retN, z_don, z_drop, w_var, w_cst, w_bin, w_not, w_and, w_or, w_cmp, w_ife, w_cons, w_nil, w_som, w_tup, w_lst, w_call, w_bif, w_isi, w_idx, List.getElem?_cons_succ, List.getElem?_cons_zero, Option.some.injEq, exists_eq_left', tr_bl, tr_some, c_eqI, c_neI, c_eqS, c_neS, c_lt, c_le, c_gt, c_ge, c_is, c_isnot, o_add, o_sub, List.set_cons_zero, List.set_cons_succ, List.length_cons, List.length_nil, Nat.reduceAdd, Nat.reduceLT, Nat.zero_add, true_and, decide_eq_true_eq, decide_eq_false_iff_not, Bool.not_eq_true', Bool.not_eq_false', Bool.false_eq_true, Bool.true_eq_false, true_implies, false_implies, and_true, Nat.lt_add_one, reduceCtorEq, decide_true, decide_false, not_false_eq_true, not_true_eq_false]) (get_pre p1 hr) (Paired.mono (fun _ _ h => h.pre p1) hR) hl fun st2 lv2 p2 hD2 hP2 => ?_
  have hf2 := get_pre (p1.trans p2) hf
  refine for_lst (xs := L.map V.str) (p := f) (fun j env st4 => ∃ q lv left x3 x4 x5 x6, env = [some (.ref r), some (.ref f), some (.ref q), x3, x4, x5, x6] ∧ st2 <+: st4 ∧ st4[q]? = some (.lst lv) ∧ Paired (ListN 0 st4) lv left ∧ left.length = rows.length ∧ (∀ row ∈ left, row.length ≤ 100000) ∧ Mg left (L.drop j)) ?_ ?_ ?_ ?_
  · rintro j env st4 ⟨q, lv, left, x3, x4, x5, x6, rfl, p4, _⟩
    exact get_pre p4 hf2
  · simp only [z_seq, z_ifs, z_asgN, z_ret, z_retN, z_don, z_drop, w_var, w_cst, w_bin, w_not, w_and, w_or, w_cmp, w_ife, w_cons, w_nil, w_som, w_tup, w_lst, w_call, w_bif, w_isi, w_idx, List.getElem?_cons_succ, List.getElem?_cons_zero, Option.some.injEq, exists_eq_left', tr_bl, tr_some, c_eqI, c_neI, c_eqS, c_neS, c_lt, c_le, c_gt, c_ge, c_is, c_isnot, o_add, o_sub, List.set_cons_zero, List.set_cons_succ, List.length_cons, List.length_nil, Nat.reduceAdd, Nat.reduceLT, Nat.zero_add, true_and, decide_eq_true_eq, decide_eq_false_iff_not, Bool.not_eq_true', Bool.not_eq_false', Bool.false_eq_true, Bool.true_eq_false, true_implies, false_implies, and_true, Nat.lt_add_one, reduceCtorEq, decide_true, decide_false, not_false_eq_true, not_true_eq_false]
    exact ⟨_, lv2, rows, none, none, none, none, rfl, List.prefix_refl _, hD2, Paired.mono (fun _ _ ⟨p, e, h1, _, h3⟩ => ⟨p, e, Nat.ne_of_gt (Nat.lt_of_le_of_lt (Nat.zero_le _) h1), h3⟩) hP2, rfl, hl2, hM⟩
  · rintro j x env st4 hx ⟨q, lv, left, x3, x4, x5, x6, rfl, p4, hq, hP, hll, hl2', hM'⟩
    rw [List.getElem?_map] at hx
    obtain ⟨s, hs, rfl⟩ := Option.map_eq_some_iff.mp hx
    have hd : L.drop j = s :: L.drop (j + 1) := by
      obtain ⟨hl, e⟩ := List.getElem?_eq_some_iff.mp hs
      rw [List.drop_eq_getElem_cons hl, e]
    rw [hd] at hM'
    obtain ⟨hnx, hMg⟩ := hM'
    refine ⟨by simp, ?_⟩
    simp only [z_seq, z_ifs, z_asgN, z_ret, z_retN, z_don, z_drop, w_var, w_cst, w_bin, w_not, w_and, w_or, w_cmp, w_ife, w_cons, w_nil, w_som, w_tup, w_lst, w_call, w_bif, w_isi, w_idx, List.getElem?_cons_succ, List.getElem?_cons_zero, Option.some.injEq, exists_eq_left', tr_bl, tr_some, c_eqI, c_neI, c_eqS, c_neS, c_lt, c_le, c_gt, c_ge, c_is, c_isnot, o_add, o_sub, List.set_cons_zero, List.set_cons_succ, List.length_cons, List.length_nil, Nat.reduceAdd, Nat.reduceLT, Nat.zero_add, true_and, decide_eq_true_eq, decide_eq_false_iff_not, Bool.not_eq_true', Bool.not_eq_false', Bool.false_eq_true, Bool.true_eq_false, true_implies, false_implies, and_true, Nat.lt_add_one, reduceCtorEq, decide_true, decide_false, not_false_eq_true, not_true_eq_false]
    refine firsts_lc (r := q) (X := 0) (rv := lv) (rows := left) (by simp [L2.wipe]) rfl (by decide) rfl hq hP (by omega) fun st5 p5 h5 => ?_
    have hfh := firsts_head (all := left) (rows := left)
    rw [hnx] at hfh
    obtain ⟨tl, htl⟩ : ∃ tl, firsts left left = s :: tl := by
      cases h : firsts left left with
      | nil => rw [h] at hfh; cases hfh
      | cons a b =>
        rw [h] at hfh
        cases hfh
        exact ⟨b, rfl⟩
    rw [htl] at h5
    simp only [z_seq, z_ifs, z_asgN, z_ret, z_retN, z_don, z_drop, w_var, w_cst, w_bin, w_not, w_and, w_or, w_cmp, w_ife, w_cons, w_nil, w_som, w_tup, w_lst, w_call, w_bif, w_isi, w_idx, List.getElem?_cons_succ, List.getElem?_cons_zero, Option.some.injEq, exists_eq_left', tr_bl, tr_some, c_eqI, c_neI, c_eqS, c_neS, c_lt, c_le, c_gt, c_ge, c_is, c_isnot, o_add, o_sub, List.set_cons_zero, List.set_cons_succ, List.length_cons, List.length_nil, Nat.reduceAdd, Nat.reduceLT, Nat.zero_add, true_and, decide_eq_true_eq, decide_eq_false_iff_not, Bool.not_eq_true', Bool.not_eq_false', Bool.false_eq_true, Bool.true_eq_false, true_implies, false_implies, and_true, Nat.lt_add_one, reduceCtorEq, decide_true, decide_false, not_false_eq_true, not_true_eq_false, tr_lst h5, w_or]
    refine ⟨fun _ => ?_, fun h => nomatch h⟩
    rw [i_at (items_lst h5) at0]
    simp only [z_seq, z_ifs, z_asgN, z_ret, z_retN, z_don, z_drop, w_var, w_cst, w_bin, w_not, w_and, w_or, w_cmp, w_ife, w_cons, w_nil, w_som, w_tup, w_lst, w_call, w_bif, w_isi, w_idx, List.getElem?_cons_succ, List.getElem?_cons_zero, Option.some.injEq, exists_eq_left', tr_bl, tr_some, c_eqI, c_neI, c_eqS, c_neS, c_lt, c_le, c_gt, c_ge, c_is, c_isnot, o_add, o_sub, List.set_cons_zero, List.set_cons_succ, List.length_cons, List.length_nil, Nat.reduceAdd, Nat.reduceLT, Nat.zero_add, true_and, decide_eq_true_eq, decide_eq_false_iff_not, Bool.not_eq_true', Bool.not_eq_false', Bool.false_eq_true, Bool.true_eq_false, true_implies, false_implies, and_true, Nat.lt_add_one, reduceCtorEq, decide_true, decide_false, not_false_eq_true, not_true_eq_false]
    obtain ⟨_, hbf⟩ := nextN_head hnx
    refine off_lc (r := q) (rv := lv) (rows := left) (X := 0) (by simp [L2.wipe]) (by decide) (by decide) rfl (fun _ => rfl) (fun _ => rfl) (fun _ => by simp [L2.wipe]) (get_pre p5 hq) (Paired.mono (fun _ _ h => h.pre p5) hP) (by omega) hl2' hbf fun st6 lv6 p6 h6 hP6 => ?_
    refine ⟨_, lv6, left.map (offN s), x3, _, _, x6, rfl, p4.trans (p5.trans p6), h6, Paired.mono (fun _ _ ⟨p, e, h1, h3⟩ => ⟨p, e, Nat.ne_of_gt (Nat.lt_of_le_of_lt (Nat.zero_le _) h1), h3⟩) hP6, ?_, ?_, hMg⟩
    · rw [List.length_map]; exact hll
    · intro row hrow
      obtain ⟨row0, h0, rfl⟩ := List.mem_map.mp hrow
      exact Nat.le_trans off_suf.length_le (hl2' _ h0)
  · rintro env st4 ⟨q, lv, left, x3, x4, x5, x6, rfl, p4, hq, hP, hll, hl2', hM'⟩
    rw [List.length_map, List.drop_length] at hM'
    refine lens_lc (r := q) (X := 0) (by simp [L2.wipe]) (by simp only [z_seq, z_ifs, z_asgN, z_ret, z_retN, z_don, z_drop, w_var, w_cst, w_bin, w_not, w_and, w_or, w_cmp, w_ife, w_cons, w_nil, w_som, w_tup, w_lst, w_call, w_bif, w_isi, w_idx, List.getElem?_cons_succ, List.getElem?_cons_zero, Option.some.injEq, exists_eq_left', tr_bl, tr_some, c_eqI, c_neI, c_eqS, c_neS, c_lt, c_le, c_gt, c_ge, c_is, c_isnot, o_add, o_sub, List.set_cons_zero, List.set_cons_succ, List.length_cons, List.length_nil, Nat.reduceAdd, Nat.reduceLT, Nat.zero_add, true_and, decide_eq_true_eq, decide_eq_false_iff_not, Bool.not_eq_true', Bool.not_eq_false', Bool.false_eq_true, Bool.true_eq_false, true_implies, false_implies, and_true, Nat.lt_add_one, reduceCtorEq, decide_true, decide_false, not_false_eq_true, not_true_eq_false]) hq hP (by omega) fun st5 p5 hD5 => ?_
    rw [b_any hD5, lens_any.mpr hM']
    rw [tr_bl]
    refine ⟨(fun h => nomatch h), fun _ => ?_⟩
    exact hQ _ (p1.trans (p2.trans (p4.trans p5)))
end Mk03
set_option maxHeartbeats 400000
/-! k03: the plain law, the ring is right. -/
namespace Mk03
open PySem PySem.Spec PyProof.Rows L2 Mi
variable {Q Rt : V → Store → Prop} {st : Store} {d : Nat} {md : Bool}
theorem fn__law_ring_right : D.pg.fn "_law_ring_right" = some f__law_ring_right := by rfl
theorem suf_drop {row : List Str} {x : Str} {tl : List Str} {i : Nat} (hn : row.Nodup) (hs : (x :: tl) <:+ row) (hi : row[i]? = some x) : row.drop (i + 1) = tl := by
  obtain ⟨pre, rfl⟩ := hs
  have h1 : (pre ++ x :: tl)[pre.length]? = some x := by simp
  have : i = pre.length := (List.getElem?_inj (lt_of_get hi) hn).mp (hi.trans h1.symm)
  subst this
  simp
theorem ring_len {left : List (List Str)} {labels : List Str} {ring : List Lean3} (h : RingOk left labels ring) : ring.length ≤ left.length := by
  have : (ring.map (·.1)).length ≤ (heads left).length := h.nd.length_le_of_subset fun x hx => by
    obtain ⟨t, ht, rfl⟩ := List.mem_map.mp hx
    obtain ⟨k, hk⟩ := List.mem_iff_getElem?.mp ht
    obtain ⟨⟨a, tl, h1, _⟩, _⟩ := h.at_ k t hk
    exact mem_heads (List.mem_of_getElem? h1)
  rw [List.length_map] at this
  exact Nat.le_trans this heads_len
theorem ring_right_ok {r lb q : Nat} {rv lv : List V} {rows left : List (List Str)} {labels L : List Str} {ring : List Lean3} {X0 : Nat} (hr : st[r]? = some (.lst rv)) (hR : Paired (ListN X0 st) rv rows) (hlb : st[lb]? = some (.lst (labels.map V.str))) (hll : labels.length = rows.length) (hln : labels.Nodup) (hl : rows.length ≤ 1000) (hnd : ∀ r ∈ rows, r.Nodup)
    (hq : st[q]? = some (.lst lv)) (hP : Paired (TupS st) lv ring) (hred : Red rows L left) (ho : RingOk left labels ring)
    (hQ : ∀ st', st <+: st' → Q (.bl true) st') : wv (callN D.pg (d + 2) false "_law_ring_right" [.ref r, .ref lb, .ref q] st) Q := by
  have hrl := Mi.P.length hR
  have hpl := Mi.P.length hP
  have hrg := ring_len ho
  have hlf := hred.len
  have h2 := ho.two
  refine callN_w fn__law_ring_right rfl ?_
  rw [show f__law_ring_right.body = b__law_ring_right from rfl, show start f__law_ring_right.N [V.ref r, V.ref lb, V.ref q] = [some (V.ref r), some (V.ref lb), some (V.ref q), none, none, none] from rfl, b__law_ring_right]
  simp only [z_seq, z_ifs, z_asgN, z_ret, z_retN, z_don, z_drop, w_var, w_cst, w_bin, w_not, w_and, w_or, w_cmp, w_ife, w_cons, w_nil, w_som, w_tup, w_lst, w_call, w_bif, w_isi, w_idx, List.getElem?_cons_succ, List.getElem?_cons_zero, Option.some.injEq, exists_eq_left', tr_bl, tr_some, c_eqI, c_neI, c_eqS, c_neS, c_lt, c_le, c_gt, c_ge, c_is, c_isnot, o_add, o_sub, List.set_cons_zero, List.set_cons_succ, List.length_cons, List.length_nil, Nat.reduceAdd, Nat.reduceLT, Nat.zero_add, true_and, decide_eq_true_eq, decide_eq_false_iff_not, Bool.not_eq_true', Bool.not_eq_false', Bool.false_eq_true, Bool.true_eq_false, true_implies, false_implies, and_true, Nat.lt_add_one, reduceCtorEq, decide_true, decide_false, not_false_eq_true, not_true_eq_false]
  refine ⟨_, ty_lst hq, ?_⟩
  rw [show subTy .list .list = true from rfl]
  simp only [z_seq, z_ifs, z_asgN, z_ret, z_retN, z_don, z_drop, w_var, w_cst, w_bin, w_not, w_and, w_or, w_cmp, w_ife, w_cons, w_nil, w_som, w_tup, w_lst, w_call, w_bif, w_isi, w_idx, List.getElem?_cons_succ, List.getElem?_cons_zero, Option.some.injEq, exists_eq_left', tr_bl, tr_some, c_eqI, c_neI, c_eqS, c_neS, c_lt, c_le, c_gt, c_ge, c_is, c_isnot, o_add, o_sub, List.set_cons_zero, List.set_cons_succ, List.length_cons, List.length_nil, Nat.reduceAdd, Nat.reduceLT, Nat.zero_add, true_and, decide_eq_true_eq, decide_eq_false_iff_not, Bool.not_eq_true', Bool.not_eq_false', Bool.false_eq_true, Bool.true_eq_false, true_implies, false_implies, and_true, Nat.lt_add_one, reduceCtorEq, decide_true, decide_false, not_false_eq_true, not_true_eq_false, b_len (items_lst hq), hpl]
  refine ⟨fun h => absurd h (by omega), fun _ => ?_⟩
  refine for_rng1 (n := ring.length) (fun j env st4 => ∃ x3 x4 x5, env = [some (.ref r), some (.ref lb), some (.ref q), x3, x4, x5] ∧ st <+: st4) (by omega) ?_ ?_ ?_
  · simp only [z_seq, z_ifs, z_asgN, z_ret, z_retN, z_don, z_drop, w_var, w_cst, w_bin, w_not, w_and, w_or, w_cmp, w_ife, w_cons, w_nil, w_som, w_tup, w_lst, w_call, w_bif, w_isi, w_idx, List.getElem?_cons_succ, List.getElem?_cons_zero, Option.some.injEq, exists_eq_left', tr_bl, tr_some, c_eqI, c_neI, c_eqS, c_neS, c_lt, c_le, c_gt, c_ge, c_is, c_isnot, o_add, o_sub, List.set_cons_zero, List.set_cons_succ, List.length_cons, List.length_nil, Nat.reduceAdd, Nat.reduceLT, Nat.zero_add, true_and, decide_eq_true_eq, decide_eq_false_iff_not, Bool.not_eq_true', Bool.not_eq_false', Bool.false_eq_true, Bool.true_eq_false, true_implies, false_implies, and_true, Nat.lt_add_one, reduceCtorEq, decide_true, decide_false, not_false_eq_true, not_true_eq_false, b_len (items_lst hq), hpl]
    exact ⟨_, _, _, rfl, List.prefix_refl _⟩
  · rintro j env st4 hj ⟨x3, x4, x5, rfl, p4⟩
    refine ⟨by simp, ?_⟩
    have hlj : lv[j]? = some lv[j] := List.getElem?_eq_getElem (by omega)
    obtain ⟨⟨a, b, c⟩, ht, p, ep, hp⟩ := Mi.P.get hP hlj
    obtain ⟨⟨i, tl, g1, g2, g3⟩, ⟨ua, ub, uc⟩, hu, e5⟩ := ho.at_ j _ ht
    dsimp only at g1 g2 g3 e5 hp
    rw [ep] at hlj
    have hq4 := get_pre p4 hq
    have hp4 := get_pre p4 hp
    simp only [z_seq, z_ifs, z_asgN, z_ret, z_retN, z_don, z_drop, w_var, w_cst, w_bin, w_not, w_and, w_or, w_cmp, w_ife, w_cons, w_nil, w_som, w_tup, w_lst, w_call, w_bif, w_isi, w_idx, List.getElem?_cons_succ, List.getElem?_cons_zero, Option.some.injEq, exists_eq_left', tr_bl, tr_some, c_eqI, c_neI, c_eqS, c_neS, c_lt, c_le, c_gt, c_ge, c_is, c_isnot, o_add, o_sub, List.set_cons_zero, List.set_cons_succ, List.length_cons, List.length_nil, Nat.reduceAdd, Nat.reduceLT, Nat.zero_add, true_and, decide_eq_true_eq, decide_eq_false_iff_not, Bool.not_eq_true', Bool.not_eq_false', Bool.false_eq_true, Bool.true_eq_false, true_implies, false_implies, and_true, Nat.lt_add_one, reduceCtorEq, decide_true, decide_false, not_false_eq_true, not_true_eq_false, i_at (items_lst hq4) (at_nat hlj)]
    refine ⟨_, ty_tup hp4, ?_⟩
    rw [show subTy .tuple .tuple = true from rfl]
    simp only [z_seq, z_ifs, z_asgN, z_ret, z_retN, z_don, z_drop, w_var, w_cst, w_bin, w_not, w_and, w_or, w_cmp, w_ife, w_cons, w_nil, w_som, w_tup, w_lst, w_call, w_bif, w_isi, w_idx, List.getElem?_cons_succ, List.getElem?_cons_zero, Option.some.injEq, exists_eq_left', tr_bl, tr_some, c_eqI, c_neI, c_eqS, c_neS, c_lt, c_le, c_gt, c_ge, c_is, c_isnot, o_add, o_sub, List.set_cons_zero, List.set_cons_succ, List.length_cons, List.length_nil, Nat.reduceAdd, Nat.reduceLT, Nat.zero_add, true_and, decide_eq_true_eq, decide_eq_false_iff_not, Bool.not_eq_true', Bool.not_eq_false', Bool.false_eq_true, Bool.true_eq_false, true_implies, false_implies, and_true, Nat.lt_add_one, reduceCtorEq, decide_true, decide_false, not_false_eq_true, not_true_eq_false, b_len (items_tup hp4)]
    rw [b_list (items_tup hp4)]
    refine ⟨fun h => absurd rfl h, fun _ => ?_⟩
    refine texts_ok (L := [a, b, c]) get_new (by simp) fun st5 p5 => ?_
    have p05 := (List.prefix_append st4 _).trans p5
    have hp5 := get_pre p05 hp4
    have hq5 := get_pre p05 hq4
    have hlb5 := get_pre (p4.trans p05) hlb
    have hr5 := get_pre (p4.trans p05) hr
    have hR5 : Paired (ListN X0 st5) rv rows := Paired.mono (fun _ _ h => h.pre (p4.trans p05)) hR
    have hP5 : Paired (TupS st5) lv ring := Paired.mono (fun _ _ h => h.pre (p4.trans p05)) hP
    have i0 : atI [V.str a, V.str b, V.str c] 0 = some (V.str a) := rfl
    have i1 : atI [V.str a, V.str b, V.str c] 1 = some (V.str b) := rfl
    have i2 : atI [V.str a, V.str b, V.str c] 2 = some (V.str c) := rfl
    have hcl : c ∈ labels := List.mem_of_getElem? g3
    rw [tr_bl]
    refine ⟨fun _ => ?_, fun h => nomatch h⟩
    rw [i_at (items_tup hp5) i2, nin_ok (items_lst hlb5) flat_str, inV_str, decide_eq_true hcl, tr_bl]
    refine ⟨(fun h => nomatch h), fun _ => ?_⟩
    have hml : (j + 1) % ring.length < ring.length := Nat.mod_lt _ (by omega)
    have hlu : lv[(j + 1) % ring.length]? = some lv[(j + 1) % ring.length] := List.getElem?_eq_getElem (by omega)
    obtain ⟨t', ht', pu, epu, hpu⟩ := Mi.P.get hP5 hlu
    rw [hu] at ht'
    cases ht'
    rw [epu] at hlu
    have em : ((j : Int) + 1) % (ring.length : Int) = (((j + 1) % ring.length : Nat) : Int) := rfl
    rw [i_at (items_tup hp5) i1, b_len (items_lst hq5), hpl, o_mod (by omega), em, i_at (items_lst hq5) (at_nat hlu), i_at (items_tup hpu) (i := 0) rfl, c_neS, e5, tr_bl]
    refine ⟨fun h => by simp at h, fun _ => ?_⟩
    simp only [z_seq, z_ifs, z_asgN, z_ret, z_retN, z_don, z_drop, w_var, w_cst, w_bin, w_not, w_and, w_or, w_cmp, w_ife, w_cons, w_nil, w_som, w_tup, w_lst, w_call, w_bif, w_isi, w_idx, List.getElem?_cons_succ, List.getElem?_cons_zero, Option.some.injEq, exists_eq_left', tr_bl, tr_some, c_eqI, c_neI, c_eqS, c_neS, c_lt, c_le, c_gt, c_ge, c_is, c_isnot, o_add, o_sub, List.set_cons_zero, List.set_cons_succ, List.length_cons, List.length_nil, Nat.reduceAdd, Nat.reduceLT, Nat.zero_add, true_and, decide_eq_true_eq, decide_eq_false_iff_not, Bool.not_eq_true', Bool.not_eq_false', Bool.false_eq_true, Bool.true_eq_false, true_implies, false_implies, and_true, Nat.lt_add_one, reduceCtorEq, decide_true, decide_false, not_false_eq_true, not_true_eq_false, w_bm, bt_ix hlb5, i_at (items_tup hp5) i2]
    refine bd_ix hlb5 hcl fun i' hi' _ => ?_
    have : i' = i := (List.getElem?_inj (lt_of_get hi') hln).mp (hi'.trans g3.symm)
    subst this
    obtain ⟨row, hrow, hsuf⟩ := hred.suf _ _ g1
    have hrvl : i' < rv.length := by
      have := lt_of_get hrow
      omega
    have hrv : rv[i']? = some rv[i'] := List.getElem?_eq_getElem (by have := lt_of_get hrow; omega)
    obtain ⟨row', hrow', p6, ep6, _, hp6⟩ := Mi.P.get hR5 hrv
    rw [hrow] at hrow'
    cases hrow'
    rw [ep6] at hrv
    have har : a ∈ row := hsuf.subset List.mem_cons_self
    rw [i_at (items_lst hr5) (at_nat hrv), i_at (items_tup hp5) i0, nin_ok (items_lst hp6) flat_str, inV_str, decide_eq_true har, tr_bl]
    refine ⟨(fun h => nomatch h), fun _ => ?_⟩
    rw [i_at (items_tup hp5) i1]
    simp only [z_seq, z_ifs, z_asgN, z_ret, z_retN, z_don, z_drop, w_var, w_cst, w_bin, w_not, w_and, w_or, w_cmp, w_ife, w_cons, w_nil, w_som, w_tup, w_lst, w_call, w_bif, w_isi, w_idx, List.getElem?_cons_succ, List.getElem?_cons_zero, Option.some.injEq, exists_eq_left', tr_bl, tr_some, c_eqI, c_neI, c_eqS, c_neS, c_lt, c_le, c_gt, c_ge, c_is, c_isnot, o_add, o_sub, List.set_cons_zero, List.set_cons_succ, List.length_cons, List.length_nil, Nat.reduceAdd, Nat.reduceLT, Nat.zero_add, true_and, decide_eq_true_eq, decide_eq_false_iff_not, Bool.not_eq_true', Bool.not_eq_false', Bool.false_eq_true, Bool.true_eq_false, true_implies, false_implies, and_true, Nat.lt_add_one, reduceCtorEq, decide_true, decide_false, not_false_eq_true, not_true_eq_false, w_slc, part0, part1, w_bm, bt_ix hp6, i_at (items_tup hp5) i0]
    refine bd_ix hp6 har fun i6 hi6 _ => ?_
    have c1 : ((i6 : Nat) : Int) + 1 = ((i6 + 1 : Nat) : Int) := rfl
    simp only [z_seq, z_ifs, z_asgN, z_ret, z_retN, z_don, z_drop, w_var, w_cst, w_bin, w_not, w_and, w_or, w_cmp, w_ife, w_cons, w_nil, w_som, w_tup, w_lst, w_call, w_bif, w_isi, w_idx, List.getElem?_cons_succ, List.getElem?_cons_zero, Option.some.injEq, exists_eq_left', tr_bl, tr_some, c_eqI, c_neI, c_eqS, c_neS, c_lt, c_le, c_gt, c_ge, c_is, c_isnot, o_add, o_sub, List.set_cons_zero, List.set_cons_succ, List.length_cons, List.length_nil, Nat.reduceAdd, Nat.reduceLT, Nat.zero_add, true_and, decide_eq_true_eq, decide_eq_false_iff_not, Bool.not_eq_true', Bool.not_eq_false', Bool.false_eq_true, Bool.true_eq_false, true_implies, false_implies, and_true, Nat.lt_add_one, reduceCtorEq, decide_true, decide_false, not_false_eq_true, not_true_eq_false, part1, c1]
    rw [s_lst hp6, cut_from, ← List.map_drop, suf_drop (hnd row (List.mem_of_getElem? hrow)) hsuf hi6, nin_ok (items_lst get_new) flat_str, inV_str, decide_eq_true g2, tr_bl]
    refine ⟨(fun h => nomatch h), fun _ => ⟨_, _, _, rfl, (p4.trans p05).trans (List.prefix_append _ _)⟩⟩
  · rintro env st4 ⟨x3, x4, x5, rfl, p4⟩
    have hq4 := get_pre p4 hq
    simp only [z_seq, z_ifs, z_asgN, z_ret, z_retN, z_don, z_drop, w_var, w_cst, w_bin, w_not, w_and, w_or, w_cmp, w_ife, w_cons, w_nil, w_som, w_tup, w_lst, w_call, w_bif, w_isi, w_idx, List.getElem?_cons_succ, List.getElem?_cons_zero, Option.some.injEq, exists_eq_left', tr_bl, tr_some, c_eqI, c_neI, c_eqS, c_neS, c_lt, c_le, c_gt, c_ge, c_is, c_isnot, o_add, o_sub, List.set_cons_zero, List.set_cons_succ, List.length_cons, List.length_nil, Nat.reduceAdd, Nat.reduceLT, Nat.zero_add, true_and, decide_eq_true_eq, decide_eq_false_iff_not, Bool.not_eq_true', Bool.not_eq_false', Bool.false_eq_true, Bool.true_eq_false, true_implies, false_implies, and_true, Nat.lt_add_one, reduceCtorEq, decide_true, decide_false, not_false_eq_true, not_true_eq_false, w_lset]
    refine lc_genS .l (fun _ => true) (fun j _ y => y = .str ((ring.map (·.1)).getD j "")) (by simp [L2.wipe]) ?_
    simp only [z_seq, z_ifs, z_asgN, z_ret, z_retN, z_don, z_drop, w_var, w_cst, w_bin, w_not, w_and, w_or, w_cmp, w_ife, w_cons, w_nil, w_som, w_tup, w_lst, w_call, w_bif, w_isi, w_idx, List.getElem?_cons_succ, List.getElem?_cons_zero, Option.some.injEq, exists_eq_left', tr_bl, tr_some, c_eqI, c_neI, c_eqS, c_neS, c_lt, c_le, c_gt, c_ge, c_is, c_isnot, o_add, o_sub, List.set_cons_zero, List.set_cons_succ, List.length_cons, List.length_nil, Nat.reduceAdd, Nat.reduceLT, Nat.zero_add, true_and, decide_eq_true_eq, decide_eq_false_iff_not, Bool.not_eq_true', Bool.not_eq_false', Bool.false_eq_true, Bool.true_eq_false, true_implies, false_implies, and_true, Nat.lt_add_one, reduceCtorEq, decide_true, decide_false, not_false_eq_true, not_true_eq_false]
    refine ⟨q, _, rfl, hq4, by omega, fun j x st5 hx p5 _ => ?_, fun _ _ _ _ _ _ _ h => h, fun acc st5 p5 hD hP' => ?_⟩
    · obtain ⟨⟨a, b, c⟩, ht, p, rfl, hp⟩ := Mi.P.get hP hx
      have hp5 := get_pre (p4.trans p5) hp
      have eg : (ring.map (·.1)).getD j ("" : Str) = a := by rw [List.getD_eq_getElem?_getD, List.getElem?_map, ht]; rfl
      refine ⟨rfl, ?_⟩
      dsimp only at hp5
      simp only [L2.wipe, eg]
      simp only [z_seq, z_ifs, z_asgN, z_ret, z_retN, z_don, z_drop, w_var, w_cst, w_bin, w_not, w_and, w_or, w_cmp, w_ife, w_cons, w_nil, w_som, w_tup, w_lst, w_call, w_bif, w_isi, w_idx, List.getElem?_cons_succ, List.getElem?_cons_zero, Option.some.injEq, exists_eq_left', tr_bl, tr_some, c_eqI, c_neI, c_eqS, c_neS, c_lt, c_le, c_gt, c_ge, c_is, c_isnot, o_add, o_sub, List.set_cons_zero, List.set_cons_succ, List.length_cons, List.length_nil, Nat.reduceAdd, Nat.reduceLT, Nat.zero_add, true_and, decide_eq_true_eq, decide_eq_false_iff_not, Bool.not_eq_true', Bool.not_eq_false', Bool.false_eq_true, Bool.true_eq_false, true_implies, false_implies, and_true, Nat.lt_add_one, reduceCtorEq, decide_true, decide_false, not_false_eq_true, not_true_eq_false, i_at (items_tup hp5) (show atI [V.str a, V.str b, V.str c] 0 = some (V.str a) from rfl)]
      exact List.prefix_refl _
    · rw [all_true] at hP'
      have e1 := paired_fun hP'
      have e2 : acc = (ring.map (·.1)).map V.str := by
        rw [e1]
        have := map_range_get (l := ring.map (·.1)) (f := fun j => V.str ((ring.map (·.1)).getD j "")) (g := V.str) fun j x h => by
          rw [List.getD_eq_getElem?_getD, h]; rfl
        rw [List.length_map, ← hpl] at this
        exact this
      subst e2
      refine ⟨_, _, lstOf_at hD, allS_map _, ⟨by rw [List.length_map]; omega, ho.nd⟩, ?_⟩
      rw [b_len (items_lst (get_pre p5 hq4)), hpl, List.length_map]
      simp only [z_seq, z_ifs, z_asgN, z_ret, z_retN, z_don, z_drop, w_var, w_cst, w_bin, w_not, w_and, w_or, w_cmp, w_ife, w_cons, w_nil, w_som, w_tup, w_lst, w_call, w_bif, w_isi, w_idx, List.getElem?_cons_succ, List.getElem?_cons_zero, Option.some.injEq, exists_eq_left', tr_bl, tr_some, c_eqI, c_neI, c_eqS, c_neS, c_lt, c_le, c_gt, c_ge, c_is, c_isnot, o_add, o_sub, List.set_cons_zero, List.set_cons_succ, List.length_cons, List.length_nil, Nat.reduceAdd, Nat.reduceLT, Nat.zero_add, true_and, decide_eq_true_eq, decide_eq_false_iff_not, Bool.not_eq_true', Bool.not_eq_false', Bool.false_eq_true, Bool.true_eq_false, true_implies, false_implies, and_true, Nat.lt_add_one, reduceCtorEq, decide_true, decide_false, not_false_eq_true, not_true_eq_false]
      exact hQ _ (p4.trans p5)
end Mk03
set_option maxHeartbeats 400000
/-! k03: the plain law, asked. -/
namespace Mk03
open PySem PySem.Spec PyProof.Rows L2 Mi
variable {Q Rt : V → Store → Prop} {st : Store} {d : Nat} {md : Bool}
theorem fn__law_asked : D.pg.fn "_law_asked" = some f__law_asked := by rfl
/-! ### texts that may be laid -/
abbrev SOk (s : Str) : Prop := PyData.strOk s = true
theorem sok_mem {s : Str} : SOk s ↔ ∀ c ∈ s.cps.toList, c < 0x110000 := by
  show (s.cps.all _) = true ↔ _
  rw [← Array.all_toList, List.all_eq_true]
  simp
theorem sok_cut {s : Str} {l h : Option Int} (g : SOk s) : SOk (cutS s l h) := sok_mem.mpr fun c hc => sok_mem.mp g c (List.mem_of_mem_drop (List.mem_of_mem_take (by simpa [cutS] using hc)))
theorem sok_app {a b : Str} (g : SOk a) (h : SOk b) : SOk (a ++ b) := sok_mem.mpr fun c hc => by
  have e : (a ++ b).cps.toList = a.cps.toList ++ b.cps.toList := by
    show (a.cps ++ b.cps).toList = _
    rw [Array.toList_append]
  rw [e] at hc
  rcases List.mem_append.mp hc with hc | hc
  · exact sok_mem.mp g c hc
  · exact sok_mem.mp h c hc
theorem sok_abc : SOk abc := by decide +kernel
theorem sok_chr {i : Int} (h0 : 0 ≤ i) (h : i < 26) : SOk (chr i) := by
  obtain ⟨c, hc, hm⟩ := atI_nn (xs := abc.cps.toList) h0 (by rw [show abc.cps.toList.length = 26 from abc_len]; exact h)
  unfold chr
  rw [hc]
  refine sok_mem.mpr fun c' hc' => ?_
  have : c' = c := by simpa using hc'
  subst this
  exact sok_mem.mp sok_abc c' (List.mem_of_getElem? hm)
theorem sok_nm (c k : Int) : SOk (nm c k) := by
  have m0 : ∀ z : Int, 0 ≤ z % 26 := fun z => Int.emod_nonneg z (by decide)
  have m1 : ∀ z : Int, z % 26 < 26 := fun z => Int.emod_lt_of_pos z (by decide)
  have hf : SOk (fill c) := sok_cut (sok_app sok_abc sok_abc)
  exact sok_app (sok_app (sok_app (sok_cut hf) (sok_chr (m0 _) (m1 _))) (sok_chr (m0 _) (m1 _))) (sok_cut hf)
/-! ### what is laid -/
def dTs (xs : List Str) : PyData := .list (xs.map .str)
def dRs (rows : List (List Str)) : PyData := .list (rows.map dTs)
theorem toD_strs {k : Nat} : ∀ {xs : List Str}, (xs.map V.str).mapM (toD k st) = some (xs.map .str)
  | [] => rfl
  | x :: xs => by
    have e : toD k st (.str x) = some (.str x) := by cases k <;> rfl
    rw [List.map_cons, List.mapM_cons, e, toD_strs]
    rfl
theorem toD_ts {k p : Nat} {xs : List Str} (h : st[p]? = some (.lst (xs.map V.str))) : toD (k + 1) st (.ref p) = some (dTs xs) := by
  simp only [toD, h, toD_strs]
  rfl
theorem toD_rows' {k X : Nat} : ∀ {lv : List V} {rows : List (List Str)}, Paired (ListN X st) lv rows → lv.mapM (toD (k + 1) st) = some (rows.map dTs)
  | _, _, .nil => rfl
  | _, _, .cons ⟨p, e, _, h⟩ r => by
    subst e
    rw [List.mapM_cons, toD_ts h, toD_rows' r]
    rfl
theorem toD_rows {k X p : Nat} {lv : List V} {rows : List (List Str)} (h : st[p]? = some (.lst lv)) (hP : Paired (ListN X st) lv rows) : toD (k + 2) st (.ref p) = some (dRs rows) := by
  simp only [toD, h]
  rw [toD_rows' hP]
  rfl
theorem can_ts {xs : List Str} (h : ∀ x ∈ xs, SOk x) : (dTs xs).canLay0 = true ∧ (dTs xs).depth ≤ 1 := by
  refine ⟨?_, ?_⟩
  · show PyData.canLayAll0 _ = true
    rw [canLayAll_strs', List.all_eq_true]
    exact h
  · have : ∀ ys : List Str, PyData.depthAll (ys.map .str) = 0 := fun ys => by
      induction ys with
      | nil => rfl
      | cons y ys ih => simp only [List.map_cons, PyData.depthAll, PyData.depth, ih]; rfl
    simp only [dTs, PyData.depth, this]
    omega
theorem can_rs : ∀ {rows : List (List Str)}, (∀ r ∈ rows, ∀ x ∈ r, SOk x) → PyData.canLayAll0 (rows.map dTs) = true ∧ PyData.depthAll (rows.map dTs) ≤ 1
  | [], _ => ⟨rfl, Nat.zero_le _⟩
  | r :: rs, h => by
    obtain ⟨a1, a2⟩ := can_ts (h r List.mem_cons_self)
    obtain ⟨b1, b2⟩ := can_rs fun r' hr => h r' (List.mem_cons_of_mem _ hr)
    refine ⟨?_, ?_⟩
    · simp only [List.map_cons, PyData.canLayAll0, a1, b1, Bool.and_self]
    · simp only [List.map_cons, PyData.depthAll]
      omega
theorem can_rows {rows : List (List Str)} (h : ∀ r ∈ rows, ∀ x ∈ r, SOk x) : (dRs rows).canLay0 = true ∧ (dRs rows).depth ≤ 60 := by
  obtain ⟨a, b⟩ := can_rs h
  refine ⟨a, ?_⟩
  simp only [dRs, PyData.depth]
  omega
/-! ### the kind of answer -/
theorem mg_red : ∀ {rows : List (List Str)} {L L' : List Str} {left : List (List Str)}, Red rows L left → Mg rows L' → (∃ r ∈ left, r ≠ []) → ∃ L'', Mg left L''
  | rows, [], L', left, h, g, _ => by
    cases h
    exact ⟨L', g⟩
  | rows, x :: L, [], left, h, g, _ => by
    obtain ⟨r, hr, hn⟩ := nextN_some h.1
    exact absurd (g r hr) hn
  | rows, x :: L, y :: L', left, h, g, hne => by
    have e : x = y := Option.some.inj (h.1.symm.trans g.1)
    subst e
    exact mg_red h.2 g.2 hne
theorem no_mg {rows left : List (List Str)} {labels L L' : List Str} {ring : List Lean3} (h : Red rows L left) (hn : nextN left left = none) (ho : RingOk left labels ring) : ¬ Mg rows L' := fun g => by
  obtain ⟨t, ht⟩ : ∃ t, ring[0]? = some t := ⟨_, List.getElem?_eq_getElem (by have := ho.two; omega)⟩
  obtain ⟨⟨a, tl, h1, _⟩, _⟩ := ho.at_ 0 t ht
  have hne : ∃ r ∈ left, r ≠ [] := ⟨_, List.mem_of_getElem? h1, by simp⟩
  obtain ⟨L2, h2⟩ := mg_red h g hne
  cases L2 with
  | nil =>
    obtain ⟨r, hr, hz⟩ := hne
    exact hz (h2 r hr)
  | cons x L2 =>
    have := h2.1
    rw [hn] at this
    cases this
theorem mg_len : ∀ {L : List Str} {rows : List (List Str)}, Mg rows L → L.length ≤ tot rows
  | [], _, _ => Nat.zero_le _
  | x :: L, rows, h => by
    obtain ⟨⟨tl, hm⟩, _⟩ := nextN_head h.1
    have h1 := tot_lt hm
    have h2 := mg_len h.2
    rw [List.length_cons]
    omega
open Classical in
noncomputable def kindOf (rows : List (List Str)) : Str := if ∃ L, Mg rows L then "row" else "ring"
theorem asked_ok {r lb : Nat} {rv : List V} {rows : List (List Str)} {labels : List Str} {X0 : Nat} (hr : st[r]? = some (.lst rv)) (hR : Paired (ListN X0 st) rv rows) (hlb : st[lb]? = some (.lst (labels.map V.str))) (hll : labels.length = rows.length) (hln : labels.Nodup) (hl : rows.length ≤ 1000) (htot : tot rows ≤ 100000) (hnd : ∀ r ∈ rows, r.Nodup)
    (hs : ∀ r ∈ rows, ∀ x ∈ r, SOk x) (hsl : ∀ x ∈ labels, SOk x) (hQ : ∀ st', st <+: st' → Q (.str (kindOf rows)) st') : wv (callN D.pg (d + 4) false "_law_asked" [.ref r, .ref lb] st) Q := by
  refine callN_w fn__law_asked rfl ?_
  rw [show f__law_asked.body = b__law_asked from rfl, show start f__law_asked.N [V.ref r, V.ref lb] = [some (V.ref r), some (V.ref lb), none, none, none, none, none, none] from rfl, b__law_asked]
  simp only [z_seq, z_ifs, z_asgN, z_ret, z_retN, z_don, z_drop, w_var, w_cst, w_bin, w_not, w_and, w_or, w_cmp, w_ife, w_cons, w_nil, w_som, w_tup, w_lst, w_call, w_bif, w_isi, w_idx, List.getElem?_cons_succ, List.getElem?_cons_zero, Option.some.injEq, exists_eq_left', tr_bl, tr_some, c_eqI, c_neI, c_eqS, c_neS, c_lt, c_le, c_gt, c_ge, c_is, c_isnot, o_add, o_sub, List.set_cons_zero, List.set_cons_succ, List.length_cons, List.length_nil, Nat.reduceAdd, Nat.reduceLT, Nat.zero_add, true_and, decide_eq_true_eq, decide_eq_false_iff_not, Bool.not_eq_true', Bool.not_eq_false', Bool.false_eq_true, Bool.true_eq_false, true_implies, false_implies, and_true, Nat.lt_add_one, reduceCtorEq, decide_true, decide_false, not_false_eq_true, not_true_eq_false]
  refine copy_lc (r := r) (X := X0) (by simp [L2.wipe]) (by simp only [z_seq, z_ifs, z_asgN, z_ret, z_retN, z_don, z_drop, w_var, w_cst, w_bin, w_not, w_and, w_or, w_cmp, w_ife, w_cons, w_nil, w_som, w_tup, w_lst, w_call, w_bif, w_isi, w_idx, List.getElem?_cons_succ, List.getElem?_cons_zero, Option.some.injEq, exists_eq_left', tr_bl, tr_some, c_eqI, c_neI, c_eqS, c_neS, c_lt, c_le, c_gt, c_ge, c_is, c_isnot, o_add, o_sub, List.set_cons_zero, List.set_cons_succ, List.length_cons, List.length_nil, Nat.reduceAdd, Nat.reduceLT, Nat.zero_add, true_and, decide_eq_true_eq, decide_eq_false_iff_not, Bool.not_eq_true', Bool.not_eq_false', Bool.false_eq_true, Bool.true_eq_false, true_implies, false_implies, and_true, Nat.lt_add_one, reduceCtorEq, decide_true, decide_false, not_false_eq_true, not_true_eq_false]) hr hR hl fun st1 lv1 p1 hD1 hP1 => ?_
  have hlb1 := get_pre p1 hlb
  rw [b_list (items_lst hlb1)]
  have q1 : st1 <+: st1 ++ [Mi.IO.lst (labels.map V.str)] := List.prefix_append _ _
  have hh2 := get_pre q1 hD1
  have hP2 : Paired (ListN st.length (st1 ++ [Mi.IO.lst (labels.map V.str)])) lv1 rows := Paired.mono (fun _ _ ⟨p, e, h1, _, h3⟩ => ⟨p, e, Nat.ne_of_gt h1, get_pre q1 h3⟩) hP1
  have hn2 : (st1 ++ [Mi.IO.lst (labels.map V.str)])[st1.length]? = some (.lst (labels.map V.str)) := get_new
  have p2 := p1.trans q1
  generalize st1 ++ [Mi.IO.lst (labels.map V.str)] = st2 at *
  have can1 := can_rows hs
  have can2 : (dTs labels).canLay0 = true ∧ (dTs labels).depth ≤ 60 := ⟨(can_ts hsl).1, Nat.le_trans (can_ts hsl).2 (by decide)⟩
  refine z_tri1 ?_
  rw [xz_seq]
  refine x_asgN ?_
  refine x_call ?_
  simp only [z_seq, z_ifs, z_asgN, z_ret, z_retN, z_don, z_drop, w_var, w_cst, w_bin, w_not, w_and, w_or, w_cmp, w_ife, w_cons, w_nil, w_som, w_tup, w_lst, w_call, w_bif, w_isi, w_idx, List.getElem?_cons_succ, List.getElem?_cons_zero, Option.some.injEq, exists_eq_left', tr_bl, tr_some, c_eqI, c_neI, c_eqS, c_neS, c_lt, c_le, c_gt, c_ge, c_is, c_isnot, o_add, o_sub, List.set_cons_zero, List.set_cons_succ, List.length_cons, List.length_nil, Nat.reduceAdd, Nat.reduceLT, Nat.zero_add, true_and, decide_eq_true_eq, decide_eq_false_iff_not, Bool.not_eq_true', Bool.not_eq_false', Bool.false_eq_true, Bool.true_eq_false, true_implies, false_implies, and_true, Nat.lt_add_one, reduceCtorEq, decide_true, decide_false, not_false_eq_true, not_true_eq_false]
  refine merged_x (X0 := st.length) hh2 hP2 hn2 hll hl htot hnd (fun st3 q L p3 hq hM => ?_) fun st3 q lv ring L left p3 hq hPr hred hnx ho => ?_
  · rw [xz_don]
    have p03 := p2.trans p3
    have hR3 : Paired (ListN X0 st3) rv rows := Paired.mono (fun _ _ h => h.pre p03) hR
    have hk : kindOf rows = "row" := by
      unfold kindOf
      rw [if_pos ⟨L, hM⟩]
    simp only [z_seq, z_ifs, z_asgN, z_ret, z_retN, z_don, z_drop, w_var, w_cst, w_bin, w_not, w_and, w_or, w_cmp, w_ife, w_cons, w_nil, w_som, w_tup, w_lst, w_call, w_bif, w_isi, w_idx, List.getElem?_cons_succ, List.getElem?_cons_zero, Option.some.injEq, exists_eq_left', tr_bl, tr_some, c_eqI, c_neI, c_eqS, c_neS, c_lt, c_le, c_gt, c_ge, c_is, c_isnot, o_add, o_sub, List.set_cons_zero, List.set_cons_succ, List.length_cons, List.length_nil, Nat.reduceAdd, Nat.reduceLT, Nat.zero_add, true_and, decide_eq_true_eq, decide_eq_false_iff_not, Bool.not_eq_true', Bool.not_eq_false', Bool.false_eq_true, Bool.true_eq_false, true_implies, false_implies, and_true, Nat.lt_add_one, reduceCtorEq, decide_true, decide_false, not_false_eq_true, not_true_eq_false]
    rw [c_neD (toD_rows (k := 58) (get_pre p3 hh2) (Paired.mono (fun _ _ h => h.pre p3) hP2)) (toD_rows (k := 58) (get_pre p03 hr) hR3) can1.1 can1.2, tr_bl]
    refine ⟨(fun h => nomatch h), fun _ => ?_⟩
    rw [c_neD (toD_ts (k := 59) (get_pre p3 hn2)) (toD_ts (k := 59) (get_pre p03 hlb)) can2.1 can2.2, tr_bl]
    refine ⟨(fun h => nomatch h), fun _ => ?_⟩
    have hLl : L.length ≤ 100000 := Nat.le_trans (mg_len hM) htot
    refine row_right_ok (get_pre p03 hr) hR3 hq hLl hl (fun row hr => Nat.le_trans (tot_mem hr) htot) hM fun st4 p4 => ?_
    rw [tr_bl]
    refine ⟨fun _ => ?_, (fun h => nomatch h)⟩
    rw [← hk]
    exact hQ st4 (p03.trans p4)
  · refine ⟨by rfl, ?_⟩
    rw [show D.pg.bad "AtOdds" = false from rfl]
    have hk : kindOf rows = "ring" := by
      unfold kindOf
      rw [if_neg fun ⟨L', h⟩ => no_mg hred hnx ho h]
    have p03 := p2.trans p3
    have en : (st3 ++ [Mi.IO.exc "AtOdds" [("ring", V.ref q)]])[st3.length]? = some (.exc "AtOdds" [("ring", V.ref q)]) := get_new
    have es : (st3 ++ [Mi.IO.exc "AtOdds" [("ring", V.ref q)]]).set st3.length .dead = st3 ++ [.dead] := by simp
    show wz (run _ _ _ (.on true) _ _) _ _
    simp only [setO]
    simp only [z_seq, z_ifs, z_asgN, z_ret, z_retN, z_don, z_drop, w_var, w_cst, w_bin, w_not, w_and, w_or, w_cmp, w_ife, w_cons, w_nil, w_som, w_tup, w_lst, w_call, w_bif, w_isi, w_idx, List.getElem?_cons_succ, List.getElem?_cons_zero, Option.some.injEq, exists_eq_left', tr_bl, tr_some, c_eqI, c_neI, c_eqS, c_neS, c_lt, c_le, c_gt, c_ge, c_is, c_isnot, o_add, o_sub, List.set_cons_zero, List.set_cons_succ, List.length_cons, List.length_nil, Nat.reduceAdd, Nat.reduceLT, Nat.zero_add, true_and, decide_eq_true_eq, decide_eq_false_iff_not, Bool.not_eq_true', Bool.not_eq_false', Bool.false_eq_true, Bool.true_eq_false, true_implies, false_implies, and_true, Nat.lt_add_one, reduceCtorEq, decide_true, decide_false, not_false_eq_true, not_true_eq_false, w_isc, w_fldX]
    refine ⟨_, _, _, true, rfl, en, by rfl, ?_⟩
    simp only [z_seq, z_ifs, z_asgN, z_ret, z_retN, z_don, z_drop, w_var, w_cst, w_bin, w_not, w_and, w_or, w_cmp, w_ife, w_cons, w_nil, w_som, w_tup, w_lst, w_call, w_bif, w_isi, w_idx, List.getElem?_cons_succ, List.getElem?_cons_zero, Option.some.injEq, exists_eq_left', tr_bl, tr_some, c_eqI, c_neI, c_eqS, c_neS, c_lt, c_le, c_gt, c_ge, c_is, c_isnot, o_add, o_sub, List.set_cons_zero, List.set_cons_succ, List.length_cons, List.length_nil, Nat.reduceAdd, Nat.reduceLT, Nat.zero_add, true_and, decide_eq_true_eq, decide_eq_false_iff_not, Bool.not_eq_true', Bool.not_eq_false', Bool.false_eq_true, Bool.true_eq_false, true_implies, false_implies, and_true, Nat.lt_add_one, reduceCtorEq, decide_true, decide_false, not_false_eq_true, not_true_eq_false]
    refine ⟨_, _, _, true, rfl, en, by rfl, ?_⟩
    simp only [z_seq, z_ifs, z_asgN, z_ret, z_retN, z_don, z_drop, w_var, w_cst, w_bin, w_not, w_and, w_or, w_cmp, w_ife, w_cons, w_nil, w_som, w_tup, w_lst, w_call, w_bif, w_isi, w_idx, List.getElem?_cons_succ, List.getElem?_cons_zero, Option.some.injEq, exists_eq_left', tr_bl, tr_some, c_eqI, c_neI, c_eqS, c_neS, c_lt, c_le, c_gt, c_ge, c_is, c_isnot, o_add, o_sub, List.set_cons_zero, List.set_cons_succ, List.length_cons, List.length_nil, Nat.reduceAdd, Nat.reduceLT, Nat.zero_add, true_and, decide_eq_true_eq, decide_eq_false_iff_not, Bool.not_eq_true', Bool.not_eq_false', Bool.false_eq_true, Bool.true_eq_false, true_implies, false_implies, and_true, Nat.lt_add_one, reduceCtorEq, decide_true, decide_false, not_false_eq_true, not_true_eq_false]
    refine ⟨_, _, _, _, rfl, en, by rfl, by rfl, ?_⟩
    rw [es]
    have q4 : st3 <+: st3 ++ [Mi.IO.dead] := List.prefix_append _ _
    generalize st3 ++ [Mi.IO.dead] = st4 at *
    have p04 := p03.trans q4
    have p24 := p3.trans q4
    have hR4 : Paired (ListN X0 st4) rv rows := Paired.mono (fun _ _ h => h.pre p04) hR
    simp only [wipeO]
    simp only [z_seq, z_ifs, z_asgN, z_ret, z_retN, z_don, z_drop, w_var, w_cst, w_bin, w_not, w_and, w_or, w_cmp, w_ife, w_cons, w_nil, w_som, w_tup, w_lst, w_call, w_bif, w_isi, w_idx, List.getElem?_cons_succ, List.getElem?_cons_zero, Option.some.injEq, exists_eq_left', tr_bl, tr_some, c_eqI, c_neI, c_eqS, c_neS, c_lt, c_le, c_gt, c_ge, c_is, c_isnot, o_add, o_sub, List.set_cons_zero, List.set_cons_succ, List.length_cons, List.length_nil, Nat.reduceAdd, Nat.reduceLT, Nat.zero_add, true_and, decide_eq_true_eq, decide_eq_false_iff_not, Bool.not_eq_true', Bool.not_eq_false', Bool.false_eq_true, Bool.true_eq_false, true_implies, false_implies, and_true, Nat.lt_add_one, reduceCtorEq, decide_true, decide_false, not_false_eq_true, not_true_eq_false]
    rw [c_neD (toD_rows (k := 58) (get_pre p24 hh2) (Paired.mono (fun _ _ h => h.pre p24) hP2)) (toD_rows (k := 58) (get_pre p04 hr) hR4) can1.1 can1.2, tr_bl]
    refine ⟨(fun h => nomatch h), fun _ => ?_⟩
    rw [c_neD (toD_ts (k := 59) (get_pre p24 hn2)) (toD_ts (k := 59) (get_pre p04 hlb)) can2.1 can2.2, tr_bl]
    refine ⟨(fun h => nomatch h), fun _ => ?_⟩
    refine ring_right_ok (get_pre p04 hr) hR4 (get_pre p04 hlb) hll hln hl hnd (get_pre q4 hq) (Paired.mono (fun _ _ h => h.pre q4) hPr) hred ho fun st5 p5 => ?_
    rw [tr_bl]
    refine ⟨fun _ => ?_, (fun h => nomatch h)⟩
    rw [← hk]
    exact hQ st5 (p04.trans p5)
end Mk03
set_option maxHeartbeats 400000
/-! k03: the plain law. -/
namespace Mk03
open PySem PySem.Spec PyProof.Rows L2 Mi
variable {Q Rt : V → Store → Prop} {st : Store} {d : Nat} {md : Bool}
theorem fn_law : D.pg.fn "law" = some f_law := by rfl
theorem nms_eq {c : Int} {n : Nat} : (List.range n).map (fun k : Nat => V.str (nm c (k : Int))) = (nms c 0 n).map V.str := by
  unfold nms
  rw [List.map_map, List.range_eq_range']
  rfl
theorem nms_sok {c : Int} {n : Nat} : ∀ x ∈ nms c 0 n, SOk x := fun x hx => by
  obtain ⟨k, _, rfl⟩ := List.mem_map.mp hx
  exact sok_nm c k
/-- names by the cell i -/
theorem names_lc1 {ns : List Int} {st1 : Store} {e : Ev} {v n : Nat} {own : List Nat} {a : T} {Q : V → Store → Prop} {t : T} (ht : t = (.lc own (.n v) .rng1 (.cons a .nil) .nil (.call "_law_name_by" (.cons (.var v) (.cons (.call "_law_cell_at" (.cons (.var 0) (.cons (.cst (.int 1)) .nil))) .nil))))) (hv : v < (L2.wipe e own).length) (hv0 : v ≠ 0) (h0 : st1[0]? = some (.fro (ns.map .int))) (he : (L2.wipe e own)[0]? = some (some (.ref 0))) (hn : n ≤ 676) (ha : wv (run D.pg (callN D.pg (d + 1)) a (.on md) e st1) fun x st2 => x = .int (n : Int) ∧ st1 = st2)
    (hQ : ∀ st2, st1 <+: st2 → st2[st1.length]? = some (.lst ((nms (cellZ ns 1) 0 n).map V.str)) → Q (.ref st1.length) st2) :
    wv (run D.pg (callN D.pg (d + 1)) t (.on md) e st1) Q := by
  subst ht
  refine lc_genR (fun _ => true) (fun j _ y => y = .str (nm (cellZ ns 1) (j : Int))) n (by omega) hv (ha.imp ?_)
  rintro x st2 ⟨rfl, rfl⟩
  refine ⟨rfl, fun j st3 hj p3 _ => ?_, fun _ _ _ _ _ _ _ h => h, fun acc st3 p3 hD hP => ?_⟩
  · have hself : ((L2.wipe e own).set v (some (V.int (j : Int))))[v]? = some (some (V.int (j : Int))) := List.getElem?_set_self hv
    have hz : ((L2.wipe e own).set v (some (V.int (j : Int))))[0]? = some (some (V.ref 0)) := by rw [List.getElem?_set_ne hv0]; exact he
    refine ⟨rfl, ?_⟩
    simp only [z_seq, z_ifs, z_asgN, z_ret, z_retN, z_don, z_drop, w_var, w_cst, w_bin, w_not, w_and, w_or, w_cmp, w_ife, w_cons, w_nil, w_som, w_tup, w_lst, w_call, w_bif, w_isi, w_idx, List.getElem?_cons_succ, List.getElem?_cons_zero, Option.some.injEq, exists_eq_left', tr_bl, tr_some, c_eqI, c_neI, c_eqS, c_neS, c_lt, c_le, c_gt, c_ge, c_is, c_isnot, o_add, o_sub, List.set_cons_zero, List.set_cons_succ, List.length_cons, List.length_nil, Nat.reduceAdd, Nat.reduceLT, Nat.zero_add, true_and, decide_eq_true_eq, decide_eq_false_iff_not, Bool.not_eq_true', Bool.not_eq_false', Bool.false_eq_true, Bool.true_eq_false, true_implies, false_implies, and_true, Nat.lt_add_one, reduceCtorEq, decide_true, decide_false, not_false_eq_true, not_true_eq_false]
    refine ⟨_, hself, _, hz, ?_⟩
    refine cell_at_ok (k := 1) (get_pre p3 h0) ?_
    refine name_by_ok ?_
    exact ⟨List.prefix_refl _, rfl⟩
  · rw [all_true] at hP
    have e1 := paired_fun hP
    rw [e1, nms_eq] at hD
    exact hQ st3 p3 hD
/-- names by the cell i -/
theorem names_lc2 {ns : List Int} {st1 : Store} {e : Ev} {v n : Nat} {own : List Nat} {a : T} {Q : V → Store → Prop} {t : T} (ht : t = (.lc own (.n v) .rng1 (.cons a .nil) .nil (.call "_law_name_by" (.cons (.var v) (.cons (.call "_law_cell_at" (.cons (.var 0) (.cons (.cst (.int 2)) .nil))) .nil))))) (hv : v < (L2.wipe e own).length) (hv0 : v ≠ 0) (h0 : st1[0]? = some (.fro (ns.map .int))) (he : (L2.wipe e own)[0]? = some (some (.ref 0))) (hn : n ≤ 676) (ha : wv (run D.pg (callN D.pg (d + 1)) a (.on md) e st1) fun x st2 => x = .int (n : Int) ∧ st1 = st2)
    (hQ : ∀ st2, st1 <+: st2 → st2[st1.length]? = some (.lst ((nms (cellZ ns 2) 0 n).map V.str)) → Q (.ref st1.length) st2) :
    wv (run D.pg (callN D.pg (d + 1)) t (.on md) e st1) Q := by
  subst ht
  refine lc_genR (fun _ => true) (fun j _ y => y = .str (nm (cellZ ns 2) (j : Int))) n (by omega) hv (ha.imp ?_)
  rintro x st2 ⟨rfl, rfl⟩
  refine ⟨rfl, fun j st3 hj p3 _ => ?_, fun _ _ _ _ _ _ _ h => h, fun acc st3 p3 hD hP => ?_⟩
  · have hself : ((L2.wipe e own).set v (some (V.int (j : Int))))[v]? = some (some (V.int (j : Int))) := List.getElem?_set_self hv
    have hz : ((L2.wipe e own).set v (some (V.int (j : Int))))[0]? = some (some (V.ref 0)) := by rw [List.getElem?_set_ne hv0]; exact he
    refine ⟨rfl, ?_⟩
    simp only [z_seq, z_ifs, z_asgN, z_ret, z_retN, z_don, z_drop, w_var, w_cst, w_bin, w_not, w_and, w_or, w_cmp, w_ife, w_cons, w_nil, w_som, w_tup, w_lst, w_call, w_bif, w_isi, w_idx, List.getElem?_cons_succ, List.getElem?_cons_zero, Option.some.injEq, exists_eq_left', tr_bl, tr_some, c_eqI, c_neI, c_eqS, c_neS, c_lt, c_le, c_gt, c_ge, c_is, c_isnot, o_add, o_sub, List.set_cons_zero, List.set_cons_succ, List.length_cons, List.length_nil, Nat.reduceAdd, Nat.reduceLT, Nat.zero_add, true_and, decide_eq_true_eq, decide_eq_false_iff_not, Bool.not_eq_true', Bool.not_eq_false', Bool.false_eq_true, Bool.true_eq_false, true_implies, false_implies, and_true, Nat.lt_add_one, reduceCtorEq, decide_true, decide_false, not_false_eq_true, not_true_eq_false]
    refine ⟨_, hself, _, hz, ?_⟩
    refine cell_at_ok (k := 2) (get_pre p3 h0) ?_
    refine name_by_ok ?_
    exact ⟨List.prefix_refl _, rfl⟩
  · rw [all_true] at hP
    have e1 := paired_fun hP
    rw [e1, nms_eq] at hD
    exact hQ st3 p3 hD
theorem paired_choose {α β : Type} {H : α → β → Prop} : ∀ {acc : List α}, (∀ y ∈ acc, ∃ x, H y x) → ∃ rows : List β, Paired H acc rows
  | [], _ => ⟨[], .nil⟩
  | y :: acc, h => by
    obtain ⟨x, hx⟩ := h y List.mem_cons_self
    obtain ⟨r, hr⟩ := paired_choose fun z hz => h z (List.mem_cons_of_mem _ hz)
    exact ⟨x :: r, .cons hx hr⟩
theorem paired_right {α β : Type} {F : α → β → Prop} : ∀ {xs : List α} {ys : List β}, Paired F xs ys → ∀ y ∈ ys, ∃ x ∈ xs, F x y
  | _, _, .nil, x, h => nomatch h
  | _, _, .cons (a := a) (b := b) f r, x, h => by
    rcases List.mem_cons.mp h with rfl | h
    · exact ⟨a, List.mem_cons_self .., f⟩
    · obtain ⟨y, hy, g⟩ := paired_right r x h
      exact ⟨y, List.mem_cons_of_mem _ hy, g⟩
theorem tot_le {n : Nat} : ∀ {rows : List (List Str)}, (∀ r ∈ rows, r.length ≤ n) → tot rows ≤ rows.length * n
  | [], _ => Nat.zero_le _
  | r :: rs, h => by
    have h1 := h r List.mem_cons_self
    have h2 := tot_le fun r' hr => h r' (List.mem_cons_of_mem _ hr)
    unfold tot at h2 ⊢
    simp only [List.map_cons, List.sum_cons, List.length_cons, Nat.add_mul]
    omega
theorem cut310 {xs : List V} : cutV xs (some 3) (some 10) = (xs.take 10).drop 3 := cut_mid (i := 3) (j := 10)
theorem law_ok {ns : List Int} (h : st[0]? = some (.fro (ns.map .int))) (hQ : ∀ st', Q (.bl true) st') : wv (callN D.pg (d + 5) false "law" [.ref 0] st) Q := by
  refine callN_w fn_law rfl ?_
  rw [show f_law.body = b_law from rfl, show start f_law.N [V.ref 0] = [some (V.ref 0), none, none, none, none, none, none, none] from rfl, b_law]
  simp only [z_seq, z_ifs, z_asgN, z_ret, z_retN, z_don, z_drop, w_var, w_cst, w_bin, w_not, w_and, w_or, w_cmp, w_ife, w_cons, w_nil, w_som, w_tup, w_lst, w_call, w_bif, w_isi, w_idx, List.getElem?_cons_succ, List.getElem?_cons_zero, Option.some.injEq, exists_eq_left', tr_bl, tr_some, c_eqI, c_neI, c_eqS, c_neS, c_lt, c_le, c_gt, c_ge, c_is, c_isnot, o_add, o_sub, List.set_cons_zero, List.set_cons_succ, List.length_cons, List.length_nil, Nat.reduceAdd, Nat.reduceLT, Nat.zero_add, true_and, decide_eq_true_eq, decide_eq_false_iff_not, Bool.not_eq_true', Bool.not_eq_false', Bool.false_eq_true, Bool.true_eq_false, true_implies, false_implies, and_true, Nat.lt_add_one, reduceCtorEq, decide_true, decide_false, not_false_eq_true, not_true_eq_false]
  refine cell_at_ok (ns := ns) (k := 0) h ?_
  simp only [z_seq, z_ifs, z_asgN, z_ret, z_retN, z_don, z_drop, w_var, w_cst, w_bin, w_not, w_and, w_or, w_cmp, w_ife, w_cons, w_nil, w_som, w_tup, w_lst, w_call, w_bif, w_isi, w_idx, List.getElem?_cons_succ, List.getElem?_cons_zero, Option.some.injEq, exists_eq_left', tr_bl, tr_some, c_eqI, c_neI, c_eqS, c_neS, c_lt, c_le, c_gt, c_ge, c_is, c_isnot, o_add, o_sub, List.set_cons_zero, List.set_cons_succ, List.length_cons, List.length_nil, Nat.reduceAdd, Nat.reduceLT, Nat.zero_add, true_and, decide_eq_true_eq, decide_eq_false_iff_not, Bool.not_eq_true', Bool.not_eq_false', Bool.false_eq_true, Bool.true_eq_false, true_implies, false_implies, and_true, Nat.lt_add_one, reduceCtorEq, decide_true, decide_false, not_false_eq_true, not_true_eq_false, o_mod (show (0 : Int) < 10 by decide)]
  refine cell_at_ok (ns := ns) (k := 0) h ?_
  simp only [z_seq, z_ifs, z_asgN, z_ret, z_retN, z_don, z_drop, w_var, w_cst, w_bin, w_not, w_and, w_or, w_cmp, w_ife, w_cons, w_nil, w_som, w_tup, w_lst, w_call, w_bif, w_isi, w_idx, List.getElem?_cons_succ, List.getElem?_cons_zero, Option.some.injEq, exists_eq_left', tr_bl, tr_some, c_eqI, c_neI, c_eqS, c_neS, c_lt, c_le, c_gt, c_ge, c_is, c_isnot, o_add, o_sub, List.set_cons_zero, List.set_cons_succ, List.length_cons, List.length_nil, Nat.reduceAdd, Nat.reduceLT, Nat.zero_add, true_and, decide_eq_true_eq, decide_eq_false_iff_not, Bool.not_eq_true', Bool.not_eq_false', Bool.false_eq_true, Bool.true_eq_false, true_implies, false_implies, and_true, Nat.lt_add_one, reduceCtorEq, decide_true, decide_false, not_false_eq_true, not_true_eq_false, o_div (show (0 : Int) < 10 by decide) (show (10 : Int) < 1073741824 by decide), o_mod (show (0 : Int) < 4 by decide)]
  generalize hz : cellZ ns 0 = z
  have m1 := Int.emod_nonneg (z / 40) (show (61 : Int) ≠ 0 by decide)
  have m2 := Int.emod_lt_of_pos (z / 40) (show (0 : Int) < 61 by decide)
  have m3 := Int.emod_nonneg z (show (10 : Int) ≠ 0 by decide)
  have m4 := Int.emod_lt_of_pos z (show (0 : Int) < 10 by decide)
  refine ⟨fun _ => ?_, fun _ => ?_⟩
  · refine cell_at_ok (ns := ns) (k := 0) h ?_
    simp only [z_ifs, z_asgN, z_ret, z_retN, z_don, z_drop, w_var, w_cst, w_bin, w_not, w_and, w_or, w_cmp, w_ife, w_cons, w_nil, w_som, w_tup, w_lst, w_call, w_bif, w_isi, w_idx, List.getElem?_cons_succ, List.getElem?_cons_zero, Option.some.injEq, exists_eq_left', tr_bl, tr_some, c_eqI, c_neI, c_eqS, c_neS, c_lt, c_le, c_gt, c_ge, c_is, c_isnot, o_add, o_sub, List.set_cons_zero, List.set_cons_succ, List.length_cons, List.length_nil, Nat.reduceAdd, Nat.reduceLT, Nat.zero_add, true_and, decide_eq_true_eq, decide_eq_false_iff_not, Bool.not_eq_true', Bool.not_eq_false', Bool.false_eq_true, Bool.true_eq_false, true_implies, false_implies, and_true, Nat.lt_add_one, reduceCtorEq, decide_true, decide_false, not_false_eq_true, not_true_eq_false, o_div (show (0 : Int) < 40 by decide) (show (40 : Int) < 1073741824 by decide), o_mod (show (0 : Int) < 61 by decide)]
    rw [hz]
    obtain ⟨n, en⟩ : ∃ n : Nat, z / 40 % 61 = (n : Int) := ⟨(z / 40 % 61).toNat, by omega⟩
    rw [en]
    have hn : n ≤ 60 := by omega
    generalize he : [some (V.ref 0), some (V.int (n : Int)), none, none, none, none, none, none] = e1
    refine names_lc1 (ns := ns) (n := n) rfl (by rw [← he]; simp [L2.wipe]) (by decide) h (by rw [← he]; rfl) (by omega) (by rw [← he]; simp only [z_seq, z_ifs, z_asgN, z_ret, z_retN, z_don, z_drop, w_var, w_cst, w_bin, w_not, w_and, w_or, w_cmp, w_ife, w_cons, w_nil, w_som, w_tup, w_lst, w_call, w_bif, w_isi, w_idx, List.getElem?_cons_succ, List.getElem?_cons_zero, Option.some.injEq, exists_eq_left', tr_bl, tr_some, c_eqI, c_neI, c_eqS, c_neS, c_lt, c_le, c_gt, c_ge, c_is, c_isnot, o_add, o_sub, List.set_cons_zero, List.set_cons_succ, List.length_cons, List.length_nil, Nat.reduceAdd, Nat.reduceLT, Nat.zero_add, true_and, decide_eq_true_eq, decide_eq_false_iff_not, Bool.not_eq_true', Bool.not_eq_false', Bool.false_eq_true, Bool.true_eq_false, true_implies, false_implies, and_true, Nat.lt_add_one, reduceCtorEq, decide_true, decide_false, not_false_eq_true, not_true_eq_false]) fun st1 p1 h1 => ?_
    have hN := nms_nodup (c := cellZ ns 1) (a := 0) (n := n) (by omega)
    have hNl : (nms (cellZ ns 1) 0 n).length = n := by unfold nms; simp
    have hNs := nms_sok (c := cellZ ns 1) (n := n)
    generalize nms (cellZ ns 1) 0 n = N at *
    have q1 : st1 <+: st1 ++ [Mi.IO.lst (((ns.map V.int).take 10).drop 3)] := List.prefix_append _ _
    have h1' := get_pre q1 h1
    have hcl : (((ns.map V.int).take 10).drop 3).length ≤ 7 := by
      rw [List.length_drop, List.length_take]
      omega
    refine lc_genS .l (fun _ => true) (fun j st2 y => ∃ p xs, y = .ref p ∧ (st1 ++ [Mi.IO.lst (((ns.map V.int).take 10).drop 3)]).length < p ∧ st2[p]? = some (.lst (xs.map V.str)) ∧ RowOk N xs) (by simp [L2.wipe]) ?_
    simp only [z_seq, z_ifs, z_asgN, z_ret, z_retN, z_don, z_drop, w_var, w_cst, w_bin, w_not, w_and, w_or, w_cmp, w_ife, w_cons, w_nil, w_som, w_tup, w_lst, w_call, w_bif, w_isi, w_idx, List.getElem?_cons_succ, List.getElem?_cons_zero, Option.some.injEq, exists_eq_left', tr_bl, tr_some, c_eqI, c_neI, c_eqS, c_neS, c_lt, c_le, c_gt, c_ge, c_is, c_isnot, o_add, o_sub, List.set_cons_zero, List.set_cons_succ, List.length_cons, List.length_nil, Nat.reduceAdd, Nat.reduceLT, Nat.zero_add, true_and, decide_eq_true_eq, decide_eq_false_iff_not, Bool.not_eq_true', Bool.not_eq_false', Bool.false_eq_true, Bool.true_eq_false, true_implies, false_implies, and_true, Nat.lt_add_one, reduceCtorEq, decide_true, decide_false, not_false_eq_true, not_true_eq_false, w_slc, part1]
    rw [s_fro (get_pre p1 h), cut310]
    refine ⟨_, _, rfl, get_new, by omega, fun j x st3 hx p3 l3 => ?_, ?_, fun acc st3 p3 hD hP => ?_⟩
    · obtain ⟨c, _, rfl⟩ := List.mem_map.mp (List.mem_of_mem_take (List.mem_of_mem_drop (List.mem_of_getElem? hx)))
      refine ⟨rfl, ?_⟩
      simp only [L2.wipe]
      simp only [z_seq, z_ifs, z_asgN, z_ret, z_retN, z_don, z_drop, w_var, w_cst, w_bin, w_not, w_and, w_or, w_cmp, w_ife, w_cons, w_nil, w_som, w_tup, w_lst, w_call, w_bif, w_isi, w_idx, List.getElem?_cons_succ, List.getElem?_cons_zero, Option.some.injEq, exists_eq_left', tr_bl, tr_some, c_eqI, c_neI, c_eqS, c_neS, c_lt, c_le, c_gt, c_ge, c_is, c_isnot, o_add, o_sub, List.set_cons_zero, List.set_cons_succ, List.length_cons, List.length_nil, Nat.reduceAdd, Nat.reduceLT, Nat.zero_add, true_and, decide_eq_true_eq, decide_eq_false_iff_not, Bool.not_eq_true', Bool.not_eq_false', Bool.false_eq_true, Bool.true_eq_false, true_implies, false_implies, and_true, Nat.lt_add_one, reduceCtorEq, decide_true, decide_false, not_false_eq_true, not_true_eq_false]
      refine row_by_ok (get_pre p3 h1') hN (by omega) fun st4 p xs p4 hp h4 ho => ?_
      exact ⟨p4, p, xs, rfl, Nat.lt_of_lt_of_le l3 hp, h4, ho⟩
    · rintro j st2 st3 y hj p2 hb ⟨p, xs, e, hp, h2, ho⟩
      exact ⟨p, xs, e, hp, hb.get h2 (by omega), ho⟩
    · rw [all_true] at hP
      obtain ⟨rows, hR⟩ := paired_choose (acc := acc) (H := fun y xs => ∃ p, y = .ref p ∧ p ≠ 0 ∧ st3[p]? = some (.lst (xs.map V.str)) ∧ RowOk N xs) fun y hy => by
        obtain ⟨j, _, p, xs, e, hp, h2, ho⟩ := paired_right hP y hy
        exact ⟨xs, p, e, Nat.ne_of_gt (Nat.lt_of_le_of_lt (Nat.zero_le _) hp), h2, ho⟩
      have hRo : ∀ r ∈ rows, RowOk N r := fun r hr => by
        obtain ⟨_, _, _, _, _, _, ho⟩ := paired_right hR r hr
        exact ho
      have hR3 : Paired (ListN 0 st3) acc rows := Paired.mono (fun _ _ ⟨p, e, h1, h2, _⟩ => ⟨p, e, h1, h2⟩) hR
      have hrl := Mi.P.length hR3
      have hal := Mi.P.length hP
      rw [List.length_range] at hal
      have p03 := p1.trans (q1.trans p3)
      refine names_lc2 (ns := ns) (n := rows.length) rfl (by simp [L2.wipe]) (by decide) (get_pre p03 h) rfl (by omega) (by simp only [z_seq, z_ifs, z_asgN, z_ret, z_retN, z_don, z_drop, w_var, w_cst, w_bin, w_not, w_and, w_or, w_cmp, w_ife, w_cons, w_nil, w_som, w_tup, w_lst, w_call, w_bif, w_isi, w_idx, List.getElem?_cons_succ, List.getElem?_cons_zero, Option.some.injEq, exists_eq_left', tr_bl, tr_some, c_eqI, c_neI, c_eqS, c_neS, c_lt, c_le, c_gt, c_ge, c_is, c_isnot, o_add, o_sub, List.set_cons_zero, List.set_cons_succ, List.length_cons, List.length_nil, Nat.reduceAdd, Nat.reduceLT, Nat.zero_add, true_and, decide_eq_true_eq, decide_eq_false_iff_not, Bool.not_eq_true', Bool.not_eq_false', Bool.false_eq_true, Bool.true_eq_false, true_implies, false_implies, and_true, Nat.lt_add_one, reduceCtorEq, decide_true, decide_false, not_false_eq_true, not_true_eq_false, b_len (items_lst hD), hrl]) fun st4 p4 h4 => ?_
      have hLn := nms_nodup (c := cellZ ns 2) (a := 0) (n := rows.length) (by omega)
      have hLl : (nms (cellZ ns 2) 0 rows.length).length = rows.length := by unfold nms; simp
      have hLs := nms_sok (c := cellZ ns 2) (n := rows.length)
      generalize nms (cellZ ns 2) 0 rows.length = LB at *
      have hD4 := get_pre p4 hD
      have hR4 : Paired (ListN 0 st4) acc rows := Paired.mono (fun _ _ h => h.pre p4) hR3
      have hlen : ∀ r ∈ rows, r.length ≤ 100 := fun r hr => by
        have := (hRo r hr).len
        omega
      have htot : tot rows ≤ 100000 := by
        have := tot_le hlen
        omega
      have hnd : ∀ r ∈ rows, r.Nodup := fun r hr => (hRo r hr).1
      have hso : ∀ r ∈ rows, ∀ x ∈ r, SOk x := fun r hr x hx => hNs x ((hRo r hr).2 x hx)
      refine asked_ok hD4 hR4 h4 hLl hLn (by omega) htot hnd hso hLs fun st5 p5 => ?_
      have hkw : (kindOf rows = "wrong") = False := eq_false (by
        unfold kindOf
        split <;> decide +kernel)
      simp only [z_seq, z_ifs, z_asgN, z_ret, z_retN, z_don, z_drop, w_var, w_cst, w_bin, w_not, w_and, w_or, w_cmp, w_ife, w_cons, w_nil, w_som, w_tup, w_lst, w_call, w_bif, w_isi, w_idx, List.getElem?_cons_succ, List.getElem?_cons_zero, Option.some.injEq, exists_eq_left', tr_bl, tr_some, c_eqI, c_neI, c_eqS, c_neS, c_lt, c_le, c_gt, c_ge, c_is, c_isnot, o_add, o_sub, List.set_cons_zero, List.set_cons_succ, List.length_cons, List.length_nil, Nat.reduceAdd, Nat.reduceLT, Nat.zero_add, true_and, decide_eq_true_eq, decide_eq_false_iff_not, Bool.not_eq_true', Bool.not_eq_false', Bool.false_eq_true, Bool.true_eq_false, true_implies, false_implies, and_true, Nat.lt_add_one, reduceCtorEq, decide_true, decide_false, not_false_eq_true, not_true_eq_false, hkw]
      refine asked_ok (get_pre p5 hD4) (Paired.mono (fun _ _ h => h.pre p5) hR4) (get_pre p5 h4) hLl hLn (by omega) htot hnd hso hLs fun st6 p6 => ?_
      simp only [z_seq, z_ifs, z_asgN, z_ret, z_retN, z_don, z_drop, w_var, w_cst, w_bin, w_not, w_and, w_or, w_cmp, w_ife, w_cons, w_nil, w_som, w_tup, w_lst, w_call, w_bif, w_isi, w_idx, List.getElem?_cons_succ, List.getElem?_cons_zero, Option.some.injEq, exists_eq_left', tr_bl, tr_some, c_eqI, c_neI, c_eqS, c_neS, c_lt, c_le, c_gt, c_ge, c_is, c_isnot, o_add, o_sub, List.set_cons_zero, List.set_cons_succ, List.length_cons, List.length_nil, Nat.reduceAdd, Nat.reduceLT, Nat.zero_add, true_and, decide_eq_true_eq, decide_eq_false_iff_not, Bool.not_eq_true', Bool.not_eq_false', Bool.false_eq_true, Bool.true_eq_false, true_implies, false_implies, and_true, Nat.lt_add_one, reduceCtorEq, decide_true, decide_false, not_false_eq_true, not_true_eq_false]
      exact hQ _
  · obtain ⟨n, en⟩ : ∃ n : Nat, z % 10 = (n : Int) := ⟨(z % 10).toNat, by omega⟩
    rw [en]
    have hn : n ≤ 60 := by omega
    generalize he : [some (V.ref 0), some (V.int (n : Int)), none, none, none, none, none, none] = e1
    refine names_lc1 (ns := ns) (n := n) rfl (by rw [← he]; simp [L2.wipe]) (by decide) h (by rw [← he]; rfl) (by omega) (by rw [← he]; simp only [z_seq, z_ifs, z_asgN, z_ret, z_retN, z_don, z_drop, w_var, w_cst, w_bin, w_not, w_and, w_or, w_cmp, w_ife, w_cons, w_nil, w_som, w_tup, w_lst, w_call, w_bif, w_isi, w_idx, List.getElem?_cons_succ, List.getElem?_cons_zero, Option.some.injEq, exists_eq_left', tr_bl, tr_some, c_eqI, c_neI, c_eqS, c_neS, c_lt, c_le, c_gt, c_ge, c_is, c_isnot, o_add, o_sub, List.set_cons_zero, List.set_cons_succ, List.length_cons, List.length_nil, Nat.reduceAdd, Nat.reduceLT, Nat.zero_add, true_and, decide_eq_true_eq, decide_eq_false_iff_not, Bool.not_eq_true', Bool.not_eq_false', Bool.false_eq_true, Bool.true_eq_false, true_implies, false_implies, and_true, Nat.lt_add_one, reduceCtorEq, decide_true, decide_false, not_false_eq_true, not_true_eq_false]) fun st1 p1 h1 => ?_
    have hN := nms_nodup (c := cellZ ns 1) (a := 0) (n := n) (by omega)
    have hNl : (nms (cellZ ns 1) 0 n).length = n := by unfold nms; simp
    have hNs := nms_sok (c := cellZ ns 1) (n := n)
    generalize nms (cellZ ns 1) 0 n = N at *
    have q1 : st1 <+: st1 ++ [Mi.IO.lst (((ns.map V.int).take 10).drop 3)] := List.prefix_append _ _
    have h1' := get_pre q1 h1
    have hcl : (((ns.map V.int).take 10).drop 3).length ≤ 7 := by
      rw [List.length_drop, List.length_take]
      omega
    refine lc_genS .l (fun _ => true) (fun j st2 y => ∃ p xs, y = .ref p ∧ (st1 ++ [Mi.IO.lst (((ns.map V.int).take 10).drop 3)]).length < p ∧ st2[p]? = some (.lst (xs.map V.str)) ∧ RowOk N xs) (by simp [L2.wipe]) ?_
    simp only [z_seq, z_ifs, z_asgN, z_ret, z_retN, z_don, z_drop, w_var, w_cst, w_bin, w_not, w_and, w_or, w_cmp, w_ife, w_cons, w_nil, w_som, w_tup, w_lst, w_call, w_bif, w_isi, w_idx, List.getElem?_cons_succ, List.getElem?_cons_zero, Option.some.injEq, exists_eq_left', tr_bl, tr_some, c_eqI, c_neI, c_eqS, c_neS, c_lt, c_le, c_gt, c_ge, c_is, c_isnot, o_add, o_sub, List.set_cons_zero, List.set_cons_succ, List.length_cons, List.length_nil, Nat.reduceAdd, Nat.reduceLT, Nat.zero_add, true_and, decide_eq_true_eq, decide_eq_false_iff_not, Bool.not_eq_true', Bool.not_eq_false', Bool.false_eq_true, Bool.true_eq_false, true_implies, false_implies, and_true, Nat.lt_add_one, reduceCtorEq, decide_true, decide_false, not_false_eq_true, not_true_eq_false, w_slc, part1]
    rw [s_fro (get_pre p1 h), cut310]
    refine ⟨_, _, rfl, get_new, by omega, fun j x st3 hx p3 l3 => ?_, ?_, fun acc st3 p3 hD hP => ?_⟩
    · obtain ⟨c, _, rfl⟩ := List.mem_map.mp (List.mem_of_mem_take (List.mem_of_mem_drop (List.mem_of_getElem? hx)))
      refine ⟨rfl, ?_⟩
      simp only [L2.wipe]
      simp only [z_seq, z_ifs, z_asgN, z_ret, z_retN, z_don, z_drop, w_var, w_cst, w_bin, w_not, w_and, w_or, w_cmp, w_ife, w_cons, w_nil, w_som, w_tup, w_lst, w_call, w_bif, w_isi, w_idx, List.getElem?_cons_succ, List.getElem?_cons_zero, Option.some.injEq, exists_eq_left', tr_bl, tr_some, c_eqI, c_neI, c_eqS, c_neS, c_lt, c_le, c_gt, c_ge, c_is, c_isnot, o_add, o_sub, List.set_cons_zero, List.set_cons_succ, List.length_cons, List.length_nil, Nat.reduceAdd, Nat.reduceLT, Nat.zero_add, true_and, decide_eq_true_eq, decide_eq_false_iff_not, Bool.not_eq_true', Bool.not_eq_false', Bool.false_eq_true, Bool.true_eq_false, true_implies, false_implies, and_true, Nat.lt_add_one, reduceCtorEq, decide_true, decide_false, not_false_eq_true, not_true_eq_false]
      refine row_by_ok (get_pre p3 h1') hN (by omega) fun st4 p xs p4 hp h4 ho => ?_
      exact ⟨p4, p, xs, rfl, Nat.lt_of_lt_of_le l3 hp, h4, ho⟩
    · rintro j st2 st3 y hj p2 hb ⟨p, xs, e, hp, h2, ho⟩
      exact ⟨p, xs, e, hp, hb.get h2 (by omega), ho⟩
    · rw [all_true] at hP
      obtain ⟨rows, hR⟩ := paired_choose (acc := acc) (H := fun y xs => ∃ p, y = .ref p ∧ p ≠ 0 ∧ st3[p]? = some (.lst (xs.map V.str)) ∧ RowOk N xs) fun y hy => by
        obtain ⟨j, _, p, xs, e, hp, h2, ho⟩ := paired_right hP y hy
        exact ⟨xs, p, e, Nat.ne_of_gt (Nat.lt_of_le_of_lt (Nat.zero_le _) hp), h2, ho⟩
      have hRo : ∀ r ∈ rows, RowOk N r := fun r hr => by
        obtain ⟨_, _, _, _, _, _, ho⟩ := paired_right hR r hr
        exact ho
      have hR3 : Paired (ListN 0 st3) acc rows := Paired.mono (fun _ _ ⟨p, e, h1, h2, _⟩ => ⟨p, e, h1, h2⟩) hR
      have hrl := Mi.P.length hR3
      have hal := Mi.P.length hP
      rw [List.length_range] at hal
      have p03 := p1.trans (q1.trans p3)
      refine names_lc2 (ns := ns) (n := rows.length) rfl (by simp [L2.wipe]) (by decide) (get_pre p03 h) rfl (by omega) (by simp only [z_seq, z_ifs, z_asgN, z_ret, z_retN, z_don, z_drop, w_var, w_cst, w_bin, w_not, w_and, w_or, w_cmp, w_ife, w_cons, w_nil, w_som, w_tup, w_lst, w_call, w_bif, w_isi, w_idx, List.getElem?_cons_succ, List.getElem?_cons_zero, Option.some.injEq, exists_eq_left', tr_bl, tr_some, c_eqI, c_neI, c_eqS, c_neS, c_lt, c_le, c_gt, c_ge, c_is, c_isnot, o_add, o_sub, List.set_cons_zero, List.set_cons_succ, List.length_cons, List.length_nil, Nat.reduceAdd, Nat.reduceLT, Nat.zero_add, true_and, decide_eq_true_eq, decide_eq_false_iff_not, Bool.not_eq_true', Bool.not_eq_false', Bool.false_eq_true, Bool.true_eq_false, true_implies, false_implies, and_true, Nat.lt_add_one, reduceCtorEq, decide_true, decide_false, not_false_eq_true, not_true_eq_false, b_len (items_lst hD), hrl]) fun st4 p4 h4 => ?_
      have hLn := nms_nodup (c := cellZ ns 2) (a := 0) (n := rows.length) (by omega)
      have hLl : (nms (cellZ ns 2) 0 rows.length).length = rows.length := by unfold nms; simp
      have hLs := nms_sok (c := cellZ ns 2) (n := rows.length)
      generalize nms (cellZ ns 2) 0 rows.length = LB at *
      have hD4 := get_pre p4 hD
      have hR4 : Paired (ListN 0 st4) acc rows := Paired.mono (fun _ _ h => h.pre p4) hR3
      have hlen : ∀ r ∈ rows, r.length ≤ 100 := fun r hr => by
        have := (hRo r hr).len
        omega
      have htot : tot rows ≤ 100000 := by
        have := tot_le hlen
        omega
      have hnd : ∀ r ∈ rows, r.Nodup := fun r hr => (hRo r hr).1
      have hso : ∀ r ∈ rows, ∀ x ∈ r, SOk x := fun r hr x hx => hNs x ((hRo r hr).2 x hx)
      refine asked_ok hD4 hR4 h4 hLl hLn (by omega) htot hnd hso hLs fun st5 p5 => ?_
      have hkw : (kindOf rows = "wrong") = False := eq_false (by
        unfold kindOf
        split <;> decide +kernel)
      simp only [z_seq, z_ifs, z_asgN, z_ret, z_retN, z_don, z_drop, w_var, w_cst, w_bin, w_not, w_and, w_or, w_cmp, w_ife, w_cons, w_nil, w_som, w_tup, w_lst, w_call, w_bif, w_isi, w_idx, List.getElem?_cons_succ, List.getElem?_cons_zero, Option.some.injEq, exists_eq_left', tr_bl, tr_some, c_eqI, c_neI, c_eqS, c_neS, c_lt, c_le, c_gt, c_ge, c_is, c_isnot, o_add, o_sub, List.set_cons_zero, List.set_cons_succ, List.length_cons, List.length_nil, Nat.reduceAdd, Nat.reduceLT, Nat.zero_add, true_and, decide_eq_true_eq, decide_eq_false_iff_not, Bool.not_eq_true', Bool.not_eq_false', Bool.false_eq_true, Bool.true_eq_false, true_implies, false_implies, and_true, Nat.lt_add_one, reduceCtorEq, decide_true, decide_false, not_false_eq_true, not_true_eq_false, hkw]
      refine asked_ok (get_pre p5 hD4) (Paired.mono (fun _ _ h => h.pre p5) hR4) (get_pre p5 h4) hLl hLn (by omega) htot hnd hso hLs fun st6 p6 => ?_
      simp only [z_seq, z_ifs, z_asgN, z_ret, z_retN, z_don, z_drop, w_var, w_cst, w_bin, w_not, w_and, w_or, w_cmp, w_ife, w_cons, w_nil, w_som, w_tup, w_lst, w_call, w_bif, w_isi, w_idx, List.getElem?_cons_succ, List.getElem?_cons_zero, Option.some.injEq, exists_eq_left', tr_bl, tr_some, c_eqI, c_neI, c_eqS, c_neS, c_lt, c_le, c_gt, c_ge, c_is, c_isnot, o_add, o_sub, List.set_cons_zero, List.set_cons_succ, List.length_cons, List.length_nil, Nat.reduceAdd, Nat.reduceLT, Nat.zero_add, true_and, decide_eq_true_eq, decide_eq_false_iff_not, Bool.not_eq_true', Bool.not_eq_false', Bool.false_eq_true, Bool.true_eq_false, true_implies, false_implies, and_true, Nat.lt_add_one, reduceCtorEq, decide_true, decide_false, not_false_eq_true, not_true_eq_false]
      exact hQ _
theorem plain (ns : List Int) (hn : ns.length ≤ 63) : ∃ st', callN D.pg (30 + 1) false "law" [.ref 0] [.fro (ns.map V.int)] = .val [.bl true] st' := by
  have key : wv (callN D.pg (26 + 5) false "law" [.ref 0] [.fro (ns.map V.int)]) fun v _ => v = .bl true := law_ok (ns := ns) rfl fun _ => rfl
  obtain ⟨v, st', e, rfl⟩ := wv_get key
  exact ⟨st', e⟩
end Mk03
section
open PySem PySem.W PySem.Calls PyProof.Rows
theorem PySem.Challenge.cw_elderline_k03_whole_row_or_ring_holds : PySem.Challenge.rw_elderline_k03_whole_row_or_ring.Holds := by
  exact Mk03.holds_of fun ns hn hz => Mk03.plain ns hn
