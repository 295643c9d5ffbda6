import PyProof.Rows.All
import Wide.All
import OpenK.AllK
import Wide.FinOn
import HandS.ForMost
import HandS.ForExc
import HandS.IsInst
import HandS.Wide
import HandS.Flow
import HandS.Walk
import HandS.Codes
import HandS.Conv
import HandS.WordsExc
import HandS.ExcOwn
import HandS.ExcIs
import HandS.TryOnly
import HandS.TryMany
import HandS.ExcCtx
import HandS.Hot
import HandS.WordsDict
import HandS.Style
import HandS.Deep
import HandS.TupAny
import HandS.TupMul
import HandS.SortInts
import HandS.ListItems
import HandS.SortRule
import PyProof.StrBlock2
import HandS.Sort
import HandS.SortOrd
import KE.KDictSum
import KE.SortData
import KE.SortKeyHeap
import HandS.SortKw
import HandS.NestedK
import HandS.ExcValue
import HandS.Lambda
import HandS.Nested
import HandS.RaiseMore
import HandS.SetFor
import KE.DataMinMax
import PyProof.SeqRoads2
import KE.KStateDown
import HandS.Head0
import HandS.Head1
import HandS.Head2
import HandS.HeadEnd
import HandS.HeadHook1
import HandS.HeadHook2
import HandS.HeadHook3
import HandS.HeadHook4
import HandS.HeadWalk
import HandS.BoundDict
import PyProof.DictUpdate
import HandS.DictComp
import HandS.Comp
import HandS.Iter
import HandS.Flt
import HandS.Zip
import HandS.Strs
import HandS.More
import KE.KDictZip
import PyProof.ZipIter
import PySem.Challenge.RW_rowlent_k44_two_hands_by_turns
set_option Elab.async false
set_option linter.all false
set_option maxRecDepth 100000
set_option maxHeartbeats 4000000

namespace R
open PySem PySem.Spec PyProof.Rows L2
/-! ### heaps that may be cut back to what is wanted -/
def Flat : HO → Prop
  | .dT kvs => kvs = []
  | .ins _ _ _ => False
  | .frz _ u => Flat u
  | _ => True
def Wf (H : Hp) : Prop := ∀ a o, H a = some o → Flat o ∨ ∃ C dx fs, o = .ins C dx fs ∧ H dx = some (.own a)
theorem flat_ok {P : Program} {w : World} {H H2 : Hp} {h : Heap} {a : Addr} {o : HO} (f : Flat o) (x : ObjOk P w H h a o) : ObjOk P w H2 h a o := by
  induction o with
  | dT kvs =>
    have e : kvs = [] := f
    subst e
    obtain ⟨z, y, xs, r, q⟩ := x
    cases r
    exact ⟨z, y, [], .nil, q⟩
  | ins C dx fs => exact f.elim
  | frz ob u ih => exact ⟨x.1, ih f x.2⟩
  | lst xs => exact x
  | tup xs => exact x
  | dK kvs => exact x
  | set S n => exact x
  | own y => exact x
  | xd fs => exact x
  | met g y => exact x
  | rng lo hi => exact x
  | tbl ps => exact x
  | ext φ => exact x
/-- H2: what is kept of H' behind a piece of code that began in H -/
structure Back (H H2 H' : Hp) : Prop where
  sub : ∀ a o, H2 a = some o → H' a = some o
  kp : ∀ a o, H a = some o → H2 a = H' a
  wf : Wf H2
theorem Back.refl {H H' : Hp} (w : Wf H') : Back H H' H' := ⟨fun _ _ h => h, fun _ _ _ => rfl, w⟩
theorem Back.hok {P : Program} {w : World} {H H2 H' : Hp} {h : Heap} (b : Back H H2 H') (x : HOk P w H' h) : HOk P w H2 h := fun a o e => by
  have q := x a o (b.sub a o e)
  rcases b.wf a o e with f | ⟨C, dx, fs, rfl, hd⟩
  · exact flat_ok f q
  · obtain ⟨_, z⟩ := q
    exact ⟨hd, z⟩
theorem Back.un {fs ex : List Addr} {H0 H H2 H' : Hp} {h h' : Heap} (b : Back H H2 H') (u0 : ∀ a o, H0 a = some o → (∀ xs, o = .tup xs → H a = some o) ∧ (∀ z y, o = .frz z y → H a = some o) ∧ (∀ ps, o = .tbl ps → ∃ m, H a = some (.tbl m)))
    (u : Un fs ex H0 H' h h') : Un fs ex H0 H2 h h' where
  keep := u.keep
  slot := u.slot
  there := u.there
  free := fun c ob q n hx => by
    have z := u.free c ob q n hx
    cases e : H2 c with
    | none => rfl
    | some x =>
      have y := b.sub c x e
      rw [z] at y
      cases y
  tups := fun c xs q => by
    have z := (u0 c _ q).1 xs rfl
    rw [b.kp c _ z]
    exact u.tups c xs q
  frzs := fun c ob x q => by
    have z := (u0 c _ q).2.1 ob x rfl
    rw [b.kp c _ z]
    exact u.frzs c ob x q
  tbls := fun c ps q => by
    obtain ⟨m, z⟩ := (u0 c _ q).2.2 ps rfl
    rw [b.kp c _ z]
    exact u.tbls c ps q
theorem Back.un0 {fs ex : List Addr} {H H2 H' : Hp} {h h' : Heap} (b : Back H H2 H') (u : Un fs ex H H' h h') : Un fs ex H H2 h h' :=
  b.un (fun a o e => ⟨fun xs r => e, fun _ _ _ => e, fun ps r => ⟨ps, by rw [e, r]⟩⟩) u
theorem Back.ub {fs : List Addr} {H H2 H' : Hp} {h B h' : Heap} (b : Back H H2 H') (u : UB fs H H' h B h') : UB fs H H2 h B h' where
  keep := u.keep
  slot := u.slot
  there := u.there
  free := fun c ob q n => by
    have z := u.free c ob q n
    cases e : H2 c with
    | none => rfl
    | some x =>
      have y := b.sub c x e
      rw [z] at y
      cases y
  tups := fun c xs q => by
    rw [b.kp c _ q]
    exact u.tups c xs q
  frzs := fun c ob x q => by
    rw [b.kp c _ q]
    exact u.frzs c ob x q
  tbls := fun c ps q => by
    rw [b.kp c _ q]
    exact u.tbls c ps q
def bQ (H : Hp) (Q : VK) : VK := fun v H' => ∃ H2, Back H H2 H' ∧ Q v H2
def bE (H : Hp) (E : XK) : XK := fun c d H' => ∃ H2, Back H H2 H' ∧ E c d H2
theorem bQ.mk {H : Hp} {Q : VK} {v : V} {H' : Hp} (w : Wf H') (q : Q v H') : bQ H Q v H' := ⟨H', Back.refl w, q⟩
section
variable {P : Program} {w : World} {K : PySem.W.Frag} {mg : Str → Option Value} {base : Heap} {k : Nat} {f : Addr} {fd : FuncData} {ps : List Str} {sp : Sp}
theorem ce_back {outer : List Env} {H : Hp} {s s' : Shared} {Q : VK} {u : Value} (h : CE outer P w H s (bQ H Q) u s') : CE outer P w H s Q u s' := by
  obtain ⟨v, H', os, bare, un, hok, r, H2, b, q⟩ := h
  exact ⟨v, H2, os, bare, b.un0 un, b.hok hok, r, q⟩
theorem cx_back {outer : List Env} {H : Hp} {s s' : Shared} {E : XK} {u : Value} (h : L2N.CX P w outer H s (bE H E) u s') : L2N.CX P w outer H s E u s' := by
  obtain ⟨a, B, H', cls, d, e, fl, hok, ub, na, os, ag, H2, b, q⟩ := h
  refine ⟨a, B, H2, cls, d, e, fl, b.hok hok, b.ub ub, ?_, os, ag, q⟩
  cases z : H2 a with
  | none => rfl
  | some x =>
    have y := b.sub a x z
    rw [na] at y
    cases y
/-- a promise over a heap that is cut back -/
def spB (sp : Sp) : Sp := fun vs H Q' E' => ∃ Q E, Q' = bQ H Q ∧ E' = bE H E ∧ sp vs H Q E
theorem fn_backX (F : FnOk P w K mg base (L2N.CX P w) k f fd ps (spB sp)) : FnOk P w K mg base (L2N.CX P w) k f fd ps sp := by
  refine ⟨fun vs H Q E q => F.len vs H (bQ H Q) (bE H E) ⟨Q, E, rfl, rfl, q⟩, fun A outer s H args us vs Q E hr he hb hv hs => ?_⟩
  refine codeAny_mono (F.run A outer s H args us vs (bQ H Q) (bE H E) hr he hb hv ⟨Q, E, rfl, rfl, hs⟩) fun r s' hq => ?_
  cases r with
  | error e => exact cx_back hq
  | ok fl =>
    cases fl with
    | ret u => exact ce_back hq
    | next => exact hq
    | brk => exact hq
    | cont => exact hq
theorem fn_back (F : FnOk P w K mg base CX0 k f fd ps (spB sp)) : FnOk P w K mg base CX0 k f fd ps sp := by
  refine ⟨fun vs H Q E q => F.len vs H (bQ H Q) (bE H E) ⟨Q, E, rfl, rfl, q⟩, fun A outer s H args us vs Q E hr he hb hv hs => ?_⟩
  refine codeAny_mono (F.run A outer s H args us vs (bQ H Q) (bE H E) hr he hb hv ⟨Q, E, rfl, rfl, hs⟩) fun r s' hq => ?_
  cases r with
  | error e => exact hq
  | ok fl =>
    cases fl with
    | ret u => exact ce_back hq
    | next => exact hq
    | brk => exact hq
    | cont => exact hq
end
/-- a def that raises nothing, by its body; the heap behind it cut back -/
theorem ok0 {P : Program} {w : World} {K : PySem.W.Frag} {mg : Str → Option Value} {base : Heap} {x qual : Str} {st : Stmt} {f : Addr} {fd : FuncData} {N ps : List Str} {k : Nat} {sp : Sp} (F : Fun K x qual st f fd) (S : FnScope N ps (defScope st)) (len : ∀ vs H Q E, sp vs H Q E → vs.length = ps.length)
    (hbody : ∀ (cdv : Value) (A : Around) (outer : List Env) (s : Shared) (H : Hp) (vs : List V) (Q : VK) (E : XK), Room k (A.deeper (envOfC qual (defScope st) s.heap.objs.size f cdv)) → sp vs H Q E →
      ∃ t, PSs (cxOf CX0 P w K mg base N qual (defScope st) f cdv A outer s H E).nox (defBody st) t ∧ t { nx := fun _ H' => bQ H Q .non H', rt := bQ H Q } (start N vs) H) : FnOk P w K mg base CX0 (k + 1) f fd ps sp := by
  refine fn_back (F.ok S (fun vs H Q E h => ?_) fun cdv A outer s H vs Q' E' hr h => ?_)
  · obtain ⟨Q, E, _, _, q⟩ := h
    exact len vs H Q E q
  · obtain ⟨Q, E, rfl, rfl, q⟩ := h
    exact hbody cdv A outer s H vs Q E hr q
theorem funOkN {P : Program} {w : World} {K : PySem.W.Frag} {mg : Str → Option Value} {base : Heap} {x qual : Str} {st : Stmt} {f : Addr} {fd : FuncData} {N ps : List Str} {k : Nat} {sp : Sp} (F : Fun K x qual st f fd) (S : FnScope N ps (defScope st)) (len : ∀ vs H Q E, sp vs H Q E → vs.length = ps.length)
    (hbody : ∀ (cdv : Value) (A : Around) (outer : List Env) (s : Shared) (H : Hp) (vs : List V) (Q : VK) (E : XK), Room k (A.deeper (envOfC qual (defScope st) s.heap.objs.size f cdv)) → sp vs H Q E →
      ∃ t, PSs (cxOf (L2N.CX P w) P w K mg base N qual (defScope st) f cdv A outer s H E) (defBody st) t ∧ t { nx := fun _ H' => Q .non H', rt := Q } (start N vs) H) : FnOk P w K mg base (L2N.CX P w) (k + 1) f fd ps sp := by
  obtain ⟨oc, od, kV, doc, pm, an, cdv, ct, osl, rfl, lk, hcd⟩ := F.ex
  exact fn_of lk hcd S len fun A outer s H vs Q E hr hsp => hbody cdv A outer s H vs Q E hr hsp
/-- .. that may raise -/
theorem okX {P : Program} {w : World} {K : PySem.W.Frag} {mg : Str → Option Value} {base : Heap} {x qual : Str} {st : Stmt} {f : Addr} {fd : FuncData} {N ps : List Str} {k : Nat} {sp : Sp} (F : Fun K x qual st f fd) (S : FnScope N ps (defScope st)) (len : ∀ vs H Q E, sp vs H Q E → vs.length = ps.length)
    (hbody : ∀ (cdv : Value) (A : Around) (outer : List Env) (s : Shared) (H : Hp) (vs : List V) (Q : VK) (E : XK), Room k (A.deeper (envOfC qual (defScope st) s.heap.objs.size f cdv)) → sp vs H Q E →
      ∃ t, PSs (cxOf (L2N.CX P w) P w K mg base N qual (defScope st) f cdv A outer s H (bE H E)) (defBody st) t ∧ t { nx := fun _ H' => bQ H Q .non H', rt := bQ H Q } (start N vs) H) : FnOk P w K mg base (L2N.CX P w) (k + 1) f fd ps sp := by
  refine fn_backX (funOkN F S (fun vs H Q E h => ?_) fun cdv A outer s H vs Q' E' hr h => ?_)
  · obtain ⟨Q, E, _, _, q⟩ := h
    exact len vs H Q E q
  · obtain ⟨Q, E, rfl, rfl, q⟩ := h
    exact hbody cdv A outer s H vs Q E hr q
section
variable {X : Cx}
/-- the heap behind an expression, a block, cut back -/
def tBack (t : TE) : TE := fun σ H Q => t σ H (bQ H Q)
theorem inv_back {pins : List (Addr × Obj)} {σ : L2.St} {σ0 : L2.St} {H H2 H' : Hp} {s s0 : Shared} (I0 : Inv X pins σ0 H s0) (b : Back H H2 H') (I : Inv X pins σ H' s) : Inv X pins σ H2 s := by
  have fr : ∀ c, H' c = none → H2 c = none := fun c z => by
    cases e : H2 c with
    | none => rfl
    | some x =>
      have y := b.sub c x e
      rw [z] at y
      cases y
  refine ⟨I.ok, I.os, I.bare, b.un (fun a o e => ⟨fun xs r => ?_, fun z y r => ?_, fun ps r => ?_⟩) I.base, I.loc, I.cell, fr _ I.free, fun x c e => fr _ (I.freeC x c e), fun p hp => ?_, b.hok I.hok, I.len⟩
  · subst r
    exact I0.base.tups a xs e
  · subst r
    exact I0.base.frzs a z y e
  · subst r
    obtain ⟨m, h⟩ := I0.base.tbls a ps e
    exact ⟨_, h⟩
  · obtain ⟨a1, a2, a3⟩ := I.pin p hp
    exact ⟨a1, fr _ a2, a3⟩
theorem pe_back {e : Expr} {t : TE} (h : PE X e t) : PE X e (tBack t) := by
  refine ⟨fun pins s σ H Q I q => ?_⟩
  refine thn (h.run pins s σ H _ I q) fun u s1 z => ?_
  obtain ⟨v, H1, I1, r1, H2, b, q2⟩ := z
  exact ⟨v, H2, inv_back I b I1, r1, q2⟩
def bD (H : Hp) (D : Ends) : Ends := { nx := fun σ H' => ∃ H2, Back H H2 H' ∧ D.nx σ H2, rt := bQ H D.rt, bk := fun σ H' => ∃ H2, Back H H2 H' ∧ D.bk σ H2, ct := fun σ H' => ∃ H2, Back H H2 H' ∧ D.ct σ H2 }
def sBack (t : TS) : TS := fun D σ H => t (bD H D) σ H
theorem sp_back {pins : List (Addr × Obj)} {σ : L2.St} {H : Hp} {D : Ends} {s s1 : Shared} {f : Flow} (I : Inv X pins σ H s) (z : SP X pins (bD H D) f s1) : SP X pins D f s1 := by
  cases f with
  | next =>
    obtain ⟨σ', H', I', H2, b, q⟩ := z
    exact ⟨σ', H2, inv_back I b I', q⟩
  | brk =>
    obtain ⟨σ', H', I', H2, b, q⟩ := z
    exact ⟨σ', H2, inv_back I b I', q⟩
  | cont =>
    obtain ⟨σ', H', I', H2, b, q⟩ := z
    exact ⟨σ', H2, inv_back I b I', q⟩
  | ret u =>
    obtain ⟨v, σ', H', I', r, H2, b, q⟩ := z
    exact ⟨v, σ', H2, inv_back I b I', r, q⟩
theorem pss_back {b : List Stmt} {t : TS} (h : PSs X b t) : PSs X b (sBack t) := ⟨fun pins s σ H D I q => thn (h.run pins s σ H _ I q) fun _ _ z => sp_back I z⟩
theorem ps_back {b : Stmt} {t : TS} (h : PS X b t) : PS X b (sBack t) := ⟨fun pins s σ H D I q => thn (h.run pins s σ H _ I q) fun _ _ z => sp_back I z⟩
end
theorem takesN {X : Cx} : L2N.Takes X (fun _ _ _ _ => False) := fun _ _ ⟨_, _, _, _, _, _, _, _, _, _, _, _, _, _, _, _, w⟩ => w.elim
theorem takesN5 {X : Cx} : L2N.Takes X (fun _ _ _ _ => False) := takesN
theorem passN {X : Cx} : Passes (L2N.CX X.prog X.w) X E0 := fun _ _ _ _ _ _ _ h => by
  obtain ⟨_, _, _, _, _, _, _, _, _, _, _, _, q⟩ := h
  exact q.elim
end R
namespace R
open PySem PySem.Spec PyProof.Rows L2
/-! ### readings that reckon: what can be seen is done by whnf, what is left stands as a want -/
theorem imp_e {X : Cx} {e : Expr} {t t' : TE} (h : PE X e t) (i : ∀ σ H Q, t' σ H Q → t σ H Q) : PE X e t' := ⟨fun pins s σ H Q I q => h.run pins s σ H Q I (i σ H Q q)⟩
theorem imp_t {X : Cx} {e : Expr} {t t' : TT} (h : PT X e t) (i : ∀ σ H Q, t' σ H Q → t σ H Q) : PT X e t' := ⟨fun pins s σ H Q I q => h.run pins s σ H Q I (i σ H Q q)⟩
theorem imp_s {X : Cx} {e : Stmt} {t t' : TS} (h : PS X e t) (i : ∀ D σ H, t' D σ H → t D σ H) : PS X e t' := ⟨fun pins s σ H D I q => h.run pins s σ H D I (i D σ H q)⟩
theorem imp_o {X : Cx} {f : Value → Value → Sem Value} {r r' : R2} (h : OpR X f r) (i : ∀ x y H Q, r' x y H Q → r x y H Q) : OpR X f r' := fun pins s σ H x y v u Q I rx ry q => h pins s σ H x y v u Q I rx ry (i x y H Q q)
theorem imp_c {X : Cx} {f : Value} {r r' : List V → Hp → VK → Prop} (h : CallR X f r) (i : ∀ xs H Q, r' xs H Q → r xs H Q) : CallR X f r' := fun pins s σ H xs us Q I rx q => h pins s σ H xs us Q I rx (i xs H Q q)
theorem imp_g {X : Cx} {e : Expr} {t t' : TG} (h : PG X e t) (i : ∀ v σ H Q, t' v σ H Q → t v σ H Q) : PG X e t' := ⟨fun pins s σ H v u Q I r q => h.run pins s σ H v u Q I r (i v σ H Q q)⟩
/-- a name -/
def cVar (i : Nat) : TE := fun σ H Q => match σ[i]? with | some (some v) => Q v H | _ => False
theorem lv {X : Cx} (i : Nat) {x : Str} {pos : Pos} (hN : X.N[i]? = some x := by rfl) (hv : Vis X.env.scope x := by first | exact Or.inl rfl | exact Or.inr (Or.inl rfl) | exact Or.inr (Or.inr rfl)) (hd : (x == ("__debug__" : Str)) = false := by decide)
    (hcd : (x == ("__classdict__" : Str)) = false := by decide) : PE X (.Name x pos) (cVar i) := imp_e (pe_var hN hv hd hcd) fun σ H Q q => by
  unfold cVar at q
  split at q
  · rename_i v e
    exact ⟨v, e, q⟩
  · exact q.elim
/-- a name of the module's top -/
def GlV (mg : Str → Option Value) (x : Str) (v : V) : Prop := ∃ u, mg x = some u ∧ RelV v u
theorem pe_g {X : Cx} {x : Str} {v : V} {pos : Pos} (h : GlV X.mg x v) (hg : Gl X x := by rfl) (hd : (x == ("__debug__" : Str)) = false := by decide) : PE X (.Name x pos) (tC v) := by
  obtain ⟨u, h1, h2⟩ := h
  exact pe_glob hg h1 h2 hd
/-- tests -/
def cTest (t : TE) : TT := fun σ H Q => t σ H fun x H' => match x with | .bl k => Q k H' | _ => False
section
variable {X : Cx} {a b c e : Expr} {ta tb tc te : TE} {tt : TT} {rest : List Expr} {pos : Pos}
theorem imp_Q {X : Cx} {e : Expr} {t : TE} {R R' : V → Hp → Prop} : True := trivial
end
/-- a reading that may be weakened at its end -/
def Mono (t : TE) : Prop := ∀ σ H (Q Q' : VK), (∀ v H', Q v H' → Q' v H') → t σ H Q → t σ H Q'
theorem run_mono {X : Cx} {e : Expr} {t : TE} (h : PE X e t) {t' : TE} (i : ∀ σ H Q, t' σ H Q → ∃ Q0 : VK, (∀ v H', Q0 v H' → Q v H') ∧ t σ H Q0) : PE X e t' := ⟨fun pins s σ H Q I q => by
  obtain ⟨Q0, w, z⟩ := i σ H Q q
  exact thn (h.run pins s σ H Q0 I z) fun u s1 ⟨v, H1, I1, r, q1⟩ => ⟨v, H1, I1, r, w v H1 q1⟩⟩
theorem run_monoT {X : Cx} {e : Expr} {t : TT} (h : PT X e t) {t' : TT} (i : ∀ σ H Q, t' σ H Q → ∃ Q0 : Bool → Hp → Prop, (∀ v H', Q0 v H' → Q v H') ∧ t σ H Q0) : PT X e t' := ⟨fun pins s σ H Q I q => by
  obtain ⟨Q0, w, z⟩ := i σ H Q q
  exact thn (h.run pins s σ H Q0 I z) fun u s1 ⟨H1, I1, q1⟩ => ⟨H1, I1, w u H1 q1⟩⟩
section
variable {X : Cx} {a b c e : Expr} {ta tb tc te : TE} {tt : TT} {rest : List Expr} {pos : Pos}
theorem testM {Q : Bool → Hp → Prop} : ∀ (v : V) (H' : Hp), (match v with | .bl k => Q k H' | _ => False) → ∃ k, v = .bl k ∧ Q k H'
  | .bl k, _, q => ⟨k, rfl, q⟩
  | .non, _, q => q.elim
  | .int _, _, q => q.elim
  | .str _, _, q => q.elim
  | .byt _, _, q => q.elim
  | .flt _, _, q => q.elim
  | .ref _, _, q => q.elim
  | .ty _, _, q => q.elim
/-- an expression that gives a bool, as a test -/
theorem pt_cmpU {op : CmpOp} {r : R2} (ho : OpR X (compareOp op) r) (ha : PE X a ta) (hb : PE X b tb) (hm : behindInMarks op b = false) : PT X (.Compare a [op] [b] pos) (cTest (tOp r ta tb)) := by
  refine ⟨fun pins s σ H Q I q => ?_⟩
  have ho' : OpR X (compareOp op) (fun x y H Q => ∃ Q0 : VK, (∀ v H', Q0 v H' → Q v H') ∧ r x y H Q0) := by
    intro pins s σ H x y v u Q I rx ry h
    obtain ⟨Q0, w, z⟩ := h
    exact thn (ho pins s σ H x y v u Q0 I rx ry z) fun u s1 ⟨v, H1, I1, r, q1⟩ => ⟨v, H1, I1, r, w v H1 q1⟩
  have ha' : PE X a (fun σ H Q => ∃ Q0 : VK, (∀ v H', Q0 v H' → Q v H') ∧ ta σ H Q0) := run_mono ha fun _ _ _ z => z
  have hb' : PE X b (fun σ H Q => ∃ Q0 : VK, (∀ v H', Q0 v H' → Q v H') ∧ tb σ H Q0) := run_mono hb fun _ _ _ z => z
  refine (pt_cmpR ho' ha' hb' hm).run pins s σ H Q I ?_
  exact ⟨_, fun x H1 z => ⟨_, fun y H2 z2 => ⟨_, fun v H3 z3 => testM v H3 z3, z2⟩, z⟩, q⟩
def cChain (r r' : R2) (ta tb tc : TE) : TE := fun σ H Q => ta σ H fun x H1 => tb σ H1 fun y H2 => r x y H2 fun z H3 => match z with
  | .bl k => if k = true then tc σ H3 fun w' H4 => r' y w' H4 Q else Q (.bl false) H3
  | _ => False
theorem chM {A : Bool → Hp → Prop} : ∀ (v : V) (H' : Hp), (match v with | .bl k => A k H' | _ => False) → ∃ k, v = .bl k ∧ A k H' := fun v H' q => testM v H' q
theorem mono_o {f : Value → Value → Sem Value} {r : R2} (ho : OpR X f r) : OpR X f (fun x y H Q => ∃ Q0 : VK, (∀ v H', Q0 v H' → Q v H') ∧ r x y H Q0) := by
  intro pins s σ H x y v u Q I rx ry h
  obtain ⟨Q0, w, z⟩ := h
  exact thn (ho pins s σ H x y v u Q0 I rx ry z) fun u s1 ⟨v, H1, I1, r, q1⟩ => ⟨v, H1, I1, r, w v H1 q1⟩
theorem mono_e {e : Expr} {t : TE} (h : PE X e t) : PE X e (fun σ H Q => ∃ Q0 : VK, (∀ v H', Q0 v H' → Q v H') ∧ t σ H Q0) := run_mono h fun _ _ _ z => z
theorem mono_t {e : Expr} {t : TT} (h : PT X e t) : PT X e (fun σ H Q => ∃ Q0 : Bool → Hp → Prop, (∀ v H', Q0 v H' → Q v H') ∧ t σ H Q0) := run_monoT h fun _ _ _ z => z
theorem pe_chainU {op op' : CmpOp} {r r' : R2} (ho : OpR X (compareOp op) r) (ho' : OpR X (compareOp op') r') (ha : PE X a ta) (hb : PE X b tb) (hc : PE X c tc)
    (hm : lastMarks [op, op'] [b, c] = false := by with_unfolding_all rfl) : PE X (.Compare a [op, op'] [b, c] pos) (cChain r r' ta tb tc) :=
  imp_e (pe_chain (mono_o ho) ho' (mono_e ha) (mono_e hb) hc hm) fun σ H Q q => ⟨_, fun x H1 z => ⟨_, fun y H2 z2 => ⟨_, fun v H3 z3 => testM (Q := fun k H3 => if k = true then tc σ H3 fun w' H4 => r' y w' H4 Q else Q (.bl false) H3) v H3 z3, z2⟩, z⟩, q⟩
theorem pt_chainU {op op' : CmpOp} {r r' : R2} (ho : OpR X (compareOp op) r) (ho' : OpR X (compareOp op') r') (ha : PE X a ta) (hb : PE X b tb) (hc : PE X c tc)
    (hm : lastMarks [op, op'] [b, c] = false := by with_unfolding_all rfl) : PT X (.Compare a [op, op'] [b, c] pos) (cTest (cChain r r' ta tb tc)) := by
  refine imp_t (pt_chain (mono_o ho) (mono_o ho') (mono_e ha) (mono_e hb) (mono_e hc) hm) fun σ H Q q => ?_
  refine ⟨_, fun x H1 z => ⟨_, fun y H2 z2 => ⟨_, fun v H3 z3 => ?_, z2⟩, z⟩, q⟩
  obtain ⟨k, e, z4⟩ := testM (Q := fun k H3 => if k = true then tc σ H3 fun w' H4 => r' y w' H4 _ else _) v H3 z3
  refine ⟨k, e, ?_⟩
  cases k with
  | true =>
    rw [if_pos rfl] at z4 ⊢
    exact ⟨_, fun w' H4 z5 => ⟨_, fun v H5 z6 => testM v H5 z6, z5⟩, z4⟩
  | false =>
    rw [if_neg Bool.false_ne_true] at z4 ⊢
    exact ⟨false, rfl, z4⟩
/-- a value's truth -/
def cTru (K : PySem.W.Frag) (x : V) (H : Hp) (Q : Bool → Hp → Prop) : Prop := match x with
  | .non => Q false H
  | .bl b => Q b H
  | .int i => Q (i != 0) H
  | .str y => y.length ≤ sizeLine ∧ Q ((y.length : Int) != 0) H
  | .ref p => ∃ k, TruV K (.ref p) H k ∧ Q k H
  | _ => False
theorem cTru.ex {K : PySem.W.Frag} {x : V} {H : Hp} {Q : Bool → Hp → Prop} (h : cTru K x H Q) : ∃ k, TruV K x H k ∧ Q k H := by
  cases x with
  | non => exact ⟨false, rfl, h⟩
  | bl b => exact ⟨b, rfl, h⟩
  | int i => exact ⟨_, rfl, h⟩
  | str y => exact ⟨_, ⟨h.1, rfl⟩, h.2⟩
  | ref p => exact h
  | byt _ => exact h.elim
  | flt _ => exact h.elim
  | ty _ => exact h.elim
def cAnd (K : PySem.W.Frag) (ta tb : TE) : TE := fun σ H Q => ta σ H fun x H1 => cTru K x H1 fun k H1 => if k = true then tb σ H1 Q else Q x H1
def cOr (K : PySem.W.Frag) (ta tb : TE) : TE := fun σ H Q => ta σ H fun x H1 => cTru K x H1 fun k H1 => if k = true then Q x H1 else tb σ H1 Q
def cNot (K : PySem.W.Frag) (ta : TE) : TE := fun σ H Q => ta σ H fun x H1 => cTru K x H1 fun k H1 => Q (.bl (!k)) H1
def cTruth (K : PySem.W.Frag) (ta : TE) : TT := fun σ H Q => ta σ H fun x H1 => cTru K x H1 Q
theorem cTru.at {K : PySem.W.Frag} {x : V} {H : Hp} {Q : Bool → Hp → Prop} (h : cTru K x H Q) : ∃ k, TruV K x H k ∧ Q k H := h.ex
theorem pe_andU {K : PySem.W.Frag} (ha : PE X a ta) (hb : PE X (.BoolOp .And (b :: rest) pos) tb) (hK : X.K = K := by rfl) : PE X (.BoolOp .And (a :: b :: rest) pos) (cAnd K ta tb) :=
  hK ▸ imp_e (pe_andT (mono_e ha) hb) fun σ H Q q => ⟨_, fun x H1 z => (cTru.at z : ∃ k, TruV X.K x H1 k ∧ if k = true then tb σ H1 Q else Q x H1), q⟩
theorem pe_orU {K : PySem.W.Frag} (ha : PE X a ta) (hb : PE X (.BoolOp .Or (b :: rest) pos) tb) (hK : X.K = K := by rfl) : PE X (.BoolOp .Or (a :: b :: rest) pos) (cOr K ta tb) :=
  hK ▸ imp_e (pe_orT (mono_e ha) hb) fun σ H Q q => ⟨_, fun x H1 z => (cTru.at z : ∃ k, TruV X.K x H1 k ∧ if k = true then Q x H1 else tb σ H1 Q), q⟩
theorem pe_notU {K : PySem.W.Frag} (ha : PE X a ta) (hK : X.K = K := by rfl) : PE X (.UnaryOp .Not a pos) (cNot K ta) :=
  hK ▸ imp_e (pe_notT (mono_e ha)) fun σ H Q q => ⟨_, fun x H1 z => (cTru.at z : ∃ k, TruV X.K x H1 k ∧ Q (.bl (!k)) H1), q⟩
theorem pt_truthU {K : PySem.W.Frag} (ha : PE X a ta) (he : ∀ whole, isTrue a X.env whole = (do let v ← whole; standAt a.pos; holding [v] (truthy v))) (hK : X.K = K := by rfl) : PT X a (cTruth K ta) :=
  hK ▸ imp_t (pt_truth (mono_e ha) he) fun σ H Q q => ⟨_, fun x H1 z => (cTru.at z : ∃ k, TruV X.K x H1 k ∧ Q k H1), q⟩
end
/-! ### operators -/
section
variable {X : Cx}
def rAddU (K : PySem.W.Frag) : R2 := fun x y H Q => match x, y with
  | .int i, .int j => Q (.int (i + j)) H
  | .str a, .str b => a.length + b.length ≤ sizeLine ∧ Q (.str (a ++ b)) H
  | .ref a, .ref b => rCat (.ref a) (.ref b) H Q ∨ rCatT K (.ref a) (.ref b) H Q
  | _, _ => False
theorem opU_add {K : PySem.W.Frag} (hK : X.K = K := by rfl) : OpR X (binaryOp .Add) (rAddU K) := hK ▸ imp_o (op_add.or (op_add_str.or (op_cat.or op_catT))) fun x y H Q q => by
  unfold rAddU at q
  split at q
  · exact .inl ⟨_, _, rfl, rfl, q⟩
  · exact .inr (.inl ⟨_, _, rfl, rfl, q.1, q.2⟩)
  · exact .inr (.inr q)
  · exact q.elim
def rSubU : R2 := fun x y H Q => match x, y with
  | .int i, .int j => Q (.int (i - j)) H
  | _, _ => False
theorem opU_sub : OpR X (binaryOp .Sub) rSubU := imp_o op_sub fun x y H Q q => by
  unfold rSubU at q
  split at q
  · exact ⟨_, _, rfl, rfl, q⟩
  · exact q.elim
def rMulU : R2 := fun x y H Q => match x, y with
  | .int i, .int j => (CMul i j ∨ CMulW i j) ∧ Q (.int (i * j)) H
  | .ref a, .int k => rRep (.ref a) (.int k) H Q
  | _, _ => False
theorem opU_mul : OpR X (binaryOp .Mult) rMulU := imp_o (op_mul.or (op_mulW.or op_rep)) fun x y H Q q => by
  unfold rMulU at q
  split at q
  · rcases q.1 with c | c
    · exact .inl ⟨_, _, rfl, rfl, c, q.2⟩
    · exact .inr (.inl ⟨_, _, rfl, rfl, c, q.2⟩)
  · exact .inr (.inr q)
  · exact q.elim
def rModU : R2 := fun x y H Q => match x, y with
  | .int i, .int j => 0 < j ∧ Q (.int (i % j)) H
  | _, _ => False
theorem opU_mod : OpR X (binaryOp .Mod) rModU := imp_o op_mod fun x y H Q q => by
  unfold rModU at q
  split at q
  · exact ⟨_, _, rfl, rfl, q.1, q.2⟩
  · exact q.elim
def rDivU : R2 := fun x y H Q => match x, y with
  | .int i, .int j => CDivW i j ∧ Q (.int (i / j)) H
  | _, _ => False
theorem opU_div : OpR X (binaryOp .FloorDiv) rDivU := imp_o op_fdivW fun x y H Q q => by
  unfold rDivU at q
  split at q
  · exact ⟨_, _, rfl, rfl, q.1, q.2⟩
  · exact q.elim
def rPowU : R2 := fun x y H Q => match x, y with
  | .int i, .int j => CPow i j ∧ Q (.int (i ^ j.toNat)) H
  | _, _ => False
theorem opU_pow : OpR X (binaryOp .Pow) rPowU := imp_o op_pow fun x y H Q q => by
  unfold rPowU at q
  split at q
  · exact ⟨_, _, rfl, rfl, q.1, q.2⟩
  · exact q.elim
def rNegU : V → Hp → VK → Prop := fun x H Q => match x with
  | .int i => Q (.int (-i)) H
  | _ => False
theorem unU_neg : UnR X (unaryOp .USub) rNegU := fun pins s σ H x v Q I rx q => un_neg pins s σ H x v Q I rx (by
  unfold rNegU at q
  split at q
  · exact ⟨_, rfl, q⟩
  · exact q.elim)
/-- order -/
def rOrd (f : Int → Int → Bool) (g : List Nat → List Nat → Bool) : R2 := fun x y H Q => match x, y with
  | .int i, .int j => Q (.bl (f i j)) H
  | .str a, .str b => Q (.bl (g a.cps.toList b.cps.toList)) H
  | _, _ => False
theorem opU_lt : OpR X (compareOp .Lt) (rOrd (fun i j => decide (i < j)) fun a b => decide (a < b)) := imp_o (op_lt.or op_lt_str) fun x y H Q q => by
  unfold rOrd at q
  split at q
  · exact .inl ⟨_, _, rfl, rfl, q⟩
  · exact .inr ⟨_, _, rfl, rfl, q⟩
  · exact q.elim
def rLeU : R2 := fun x y H Q => match x, y with
  | .int i, .int j => Q (.bl (decide (i ≤ j))) H
  | .str a, .str b => Q (.bl (!decide (b.cps.toList < a.cps.toList))) H
  | _, _ => False
theorem opU_le : OpR X (compareOp .LtE) rLeU := imp_o (op_le.or op_le_str) fun x y H Q q => by
  unfold rLeU at q
  split at q
  · exact .inl ⟨_, _, rfl, rfl, q⟩
  · exact .inr ⟨_, _, rfl, rfl, q⟩
  · exact q.elim
def rGtU : R2 := fun x y H Q => match x, y with
  | .int i, .int j => Q (.bl (decide (j < i))) H
  | _, _ => False
theorem opU_gt : OpR X (compareOp .Gt) rGtU := imp_o op_gt fun x y H Q q => by
  unfold rGtU at q
  split at q
  · exact ⟨_, _, rfl, rfl, q⟩
  · exact q.elim
def rGeU : R2 := fun x y H Q => match x, y with
  | .int i, .int j => Q (.bl (decide (j ≤ i))) H
  | _, _ => False
theorem opU_ge : OpR X (compareOp .GtE) rGeU := imp_o op_ge fun x y H Q q => by
  unfold rGeU at q
  split at q
  · exact ⟨_, _, rfl, rfl, q⟩
  · exact q.elim
/-- == -/
def rEqU (K : PySem.W.Frag) : R2 := fun x y H Q => match scal x y with | true => Q (.bl (decide (x = y))) H | false => rEqD K x y H Q
def rNeU (K : PySem.W.Frag) : R2 := fun x y H Q => match scal x y with | true => Q (.bl (!decide (x = y))) H | false => rNeD K x y H Q
theorem roomU {k : Nat} {A : Around} (r : Room k A) : A.units + 64 < cLine := by have := r.un; omega
theorem opU_eq {K : PySem.W.Frag} {k : Nat} (r : Room k X.A) (hK : X.K = K := by rfl) : OpR X (compareOp .Eq) (rEqU K) := hK ▸ imp_o (op_eq.or (op_eqD (roomU r))) fun x y H Q q => by
  unfold rEqU at q
  split at q
  · rename_i e
    exact .inl ⟨e, q⟩
  · exact .inr q
theorem opU_ne {K : PySem.W.Frag} {k : Nat} (r : Room k X.A) (hK : X.K = K := by rfl) : OpR X (compareOp .NotEq) (rNeU K) := hK ▸ imp_o (op_ne.or (op_neD (roomU r))) fun x y H Q q => by
  unfold rNeU at q
  split at q
  · rename_i e
    exact .inl ⟨e, q⟩
  · exact .inr q
def rIsU (n : Bool) : R2 := fun x y H Q => match y with
  | .non => Q (.bl (n != decide (x = .non))) H
  | .bl b => (match x with | .bl a => Q (.bl (n != decide (a = b))) H | _ => False)
  | _ => False
theorem opU_is : OpR X (compareOp .Is) (rIsU false) := imp_o (op_isN.or op_isBl) fun x y H Q q => by
  unfold rIsU at q
  split at q
  · exact .inl ⟨rfl, by simpa using q⟩
  · split at q
    · exact .inr ⟨_, _, rfl, rfl, by simpa using q⟩
    · exact q.elim
  · exact q.elim
theorem opU_isnot : OpR X (compareOp .IsNot) (rIsU true) := imp_o (op_notN.or op_notBl) fun x y H Q q => by
  unfold rIsU at q
  split at q
  · exact .inl ⟨rfl, by simpa using q⟩
  · split at q
    · exact .inr ⟨_, _, rfl, rfl, by simpa using q⟩
    · exact q.elim
  · exact q.elim
/-- in -/
def rInU (K : PySem.W.Frag) (n : Bool) : R2 := fun x y H Q => match y with
  | .str z => (match x with
    | .str s => ∃ c, s = ⟨#[c]⟩ ∧ (match n with | true => Q (.bl (!decide (c ∈ z.cps.toList))) H | false => Q (.bl (decide (c ∈ z.cps.toList))) H)
    | _ => False)
  | .ref p => ∃ xs, (SqL K H p xs ∨ SqT K H p xs) ∧ flatV x = true ∧ xs.all flatV = true ∧ (match n with | true => Q (.bl (!inV x xs)) H | false => Q (.bl (inV x xs)) H)
  | _ => False
theorem opU_in {K : PySem.W.Frag} (hK : X.K = K := by rfl) : OpR X (compareOp .In) (rInU K false) := hK ▸ imp_o (op_in_sign.or op_in_seq) fun x y H Q q => by
  unfold rInU at q
  split at q
  · split at q
    · obtain ⟨c, rfl, q⟩ := q
      exact .inl ⟨c, _, rfl, rfl, q⟩
    · exact q.elim
  · obtain ⟨xs, h1, h2, h3, q⟩ := q
    exact .inr ⟨_, xs, rfl, h1, h2, h3, q⟩
  · exact q.elim
theorem opU_notin {K : PySem.W.Frag} (hK : X.K = K := by rfl) : OpR X (compareOp .NotIn) (rInU K true) := hK ▸ imp_o (op_notIn_sign.or op_notIn_seq) fun x y H Q q => by
  unfold rInU at q
  split at q
  · split at q
    · obtain ⟨c, rfl, q⟩ := q
      exact .inl ⟨c, _, rfl, rfl, q⟩
    · exact q.elim
  · obtain ⟨xs, h1, h2, h3, q⟩ := q
    exact .inr ⟨_, xs, rfl, h1, h2, h3, q⟩
  · exact q.elim
/-- x[i] -/
def rIxU (K : PySem.W.Frag) : R2 := fun x y H Q => match x, y with
  | .str z, .int i => z.length ≤ sizeLine ∧ ∃ c, atI z.cps.toList i = some c ∧ Q (.str ⟨#[c]⟩) H
  | .ref p, .int i => ∃ xs v, (SqL K H p xs ∨ SqT K H p xs) ∧ atI xs i = some v ∧ Q v H
  | _, _ => False
theorem ixU {K : PySem.W.Frag} (hK : X.K = K := by rfl) : IxR X (rIxU K) := by
  subst hK
  intro value slice pins s σ H x y v u Q I rx ry q hs
  refine ix_seq value slice pins s σ H x y v u Q I rx ry ?_ hs
  unfold rIxU at q
  split at q
  · obtain ⟨h1, c, h2, q⟩ := q
    exact .inr (.inr ⟨_, _, c, rfl, rfl, h1, h2, q⟩)
  · obtain ⟨xs, w, h1 | h1, h2, q⟩ := q
    · exact .inl ⟨_, xs, _, w, rfl, rfl, h1, h2, q⟩
    · exact .inr (.inl ⟨_, xs, _, w, rfl, rfl, h1, h2, q⟩)
  · exact q.elim
/-- x[i:j] -/
def rSlU (K : PySem.W.Frag) : V → Option Int → Option Int → Hp → VK → Prop := fun x lo hi H Q => match x with
  | .str z => z.length ≤ sizeLine ∧ Q (.str (cutS z lo hi)) H
  | .ref p => rSlL K (.ref p) lo hi H Q ∨ rSlT K (.ref p) lo hi H Q
  | _ => False
theorem slU {K : PySem.W.Frag} (hK : X.K = K := by rfl) : SlR X (rSlU K) := by
  subst hK
  intro pins s σ H x v vl vu lo hi sl Q I rx hs pl pu q
  refine (sl_str.or (sl_list.or sl_tup)) pins s σ H x v vl vu lo hi sl Q I rx hs pl pu ?_
  unfold rSlU at q
  split at q
  · exact .inl ⟨_, rfl, q.1, q.2⟩
  · exact .inr q
  · exact q.elim
def cPart (t : TE) : TO := fun σ H Q => t σ H fun x H1 => match x with | .int i => Q (some i) H1 | _ => False
theorem imp_po {e : Option Expr} {t t' : TO} (h : PO X e t) (i : ∀ σ H Q, t' σ H Q → t σ H Q) : PO X e t' := ⟨fun pins s σ H Q I q => h.run pins s σ H Q I (i σ H Q q)⟩
theorem po_someU {e : Expr} {t : TE} (h : PE X e t) : PO X (some e) (cPart t) := imp_po (po_some (mono_e h)) fun σ H Q q => ⟨_, fun x H1 z => by
  revert z
  cases x <;> intro z <;> first | exact ⟨_, rfl, z⟩ | exact z.elim, q⟩
/-! ### built-ins -/
def rLenU (K : PySem.W.Frag) : List V → Hp → VK → Prop := fun xs H Q => match xs with
  | [.str z] => z.length ≤ sizeLine ∧ Q (.int z.length) H
  | [.ref p] => (∃ ys, (SqL K H p ys ∨ SqT K H p ys) ∧ Q (.int ys.length) H) ∨ ∃ kvs, H p = some (.dK kvs) ∧ Q (.int kvs.length) H
  | _ => False
theorem callU_len {K : PySem.W.Frag} (hK : X.K = K := by rfl) : CallR X (.builtin "len") (rLenU K) := hK ▸ imp_c (call_len_str.or (call_len_seq.or call_lenD)) fun xs H Q q => by
  unfold rLenU at q
  split at q
  · exact .inl ⟨_, rfl, q.1, q.2⟩
  · rcases q with ⟨ys, h, q⟩ | ⟨kvs, h, q⟩
    · exact .inr (.inl ⟨_, ys, rfl, h, q⟩)
    · exact .inr (.inr ⟨_, kvs, rfl, h, q⟩)
  · exact q.elim
/-- isinstance of a value whose type is known -/
def IsiV (K : PySem.W.Frag) (H : Hp) (x : V) (n : String) (b : Bool) : Prop := ∃ t, TyX K H x t ∧ PySem.W.kitOne K t (.type n) = some b
def rIsiU (K : PySem.W.Frag) : List V → Hp → VK → Prop := fun xs H Q => match xs with
  | [x, .ty n] => ∃ b, IsiV K H x n b ∧ Q (.bl b) H
  | [x, .ref c] => rIsi K [x, .ref c] H Q ∨ rIsiT K [x, .ref c] H Q
  | _ => False
theorem callU_isi {K : PySem.W.Frag} (hK : X.K = K := by rfl) : CallR X (.builtin "isinstance") (rIsiU K) := hK ▸ imp_c (call_isi.or call_isiT) fun xs H Q q => by
  unfold rIsiU at q
  split at q
  · obtain ⟨b, ⟨t, h1, h2⟩, q⟩ := q
    exact .inl ⟨_, _, t, _, b, rfl, .ty _, h1, h2, q⟩
  · exact q
  · exact q.elim
def rIntU : List V → Hp → VK → Prop := fun xs H Q => match xs with
  | [.int i] => Q (.int i) H
  | [.bl k] => Q (.int (if k then 1 else 0)) H
  | [.str a] => ∃ n, PySem.intText? a = some n ∧ a.length ≤ 640 ∧ Q (.int n) H
  | _ => False
theorem callU_int : CallR X (.type "int") rIntU := imp_c (call_int1.or call_int_str) fun xs H Q q => by
  unfold rIntU at q
  split at q
  · exact .inl (.inl ⟨_, rfl, q⟩)
  · exact .inl (.inr ⟨_, rfl, q⟩)
  · obtain ⟨n, h1, h2, q⟩ := q
    exact .inr ⟨_, n, rfl, h1, h2, q⟩
  · exact q.elim
def rStrU : List V → Hp → VK → Prop := fun xs H Q => match xs with
  | [.int i] => i.natAbs.log2 < 1920 ∧ Q (.str (toString i)) H
  | _ => False
theorem callU_str : CallR X (.type "str") rStrU := imp_c call_str_int fun xs H Q q => by
  unfold rStrU at q
  split at q
  · exact ⟨_, rfl, q.1, q.2⟩
  · exact q.elim
def rListU (K : PySem.W.Frag) : List V → Hp → VK → Prop := fun xs H Q => match xs with
  | [.ref p] => (∃ ys, (SqL K H p ys ∨ SqT K H p ys) ∧ ∀ l, H l = none → Q (.ref l) (upd H l (.lst ys))) ∨ ∃ kvs : List (Key × V), H p = some (.dK kvs) ∧ ∀ q, H q = none → Q (.ref q) (upd H q (.lst (kvs.map fun kv => kV kv.1)))
  | _ => False
theorem callU_list {K : PySem.W.Frag} (hc : X.calm = true) (hK : X.K = K := by rfl) : CallR X (.type "list") (rListU K) := hK ▸ imp_c (call_list_of.or (call_list_dK hc)) fun xs H Q q => by
  unfold rListU at q
  split at q
  · rcases q with ⟨ys, h, q⟩ | ⟨kvs, h, q⟩
    · exact .inl ⟨_, ys, rfl, h, q⟩
    · exact .inr ⟨_, kvs, rfl, h, q⟩
  · exact q.elim
def rTupU (K : PySem.W.Frag) : List V → Hp → VK → Prop := fun xs H Q => match xs with
  | [.ref p] => ∃ ys, (SqL K H p ys ∧ ∀ l, H l = none → Q (.ref l) (upd H l (.tup ys))) ∨ (SqT K H p ys ∧ Q (.ref p) H)
  | _ => False
theorem callU_tuple {K : PySem.W.Frag} (hK : X.K = K := by rfl) : CallR X (.type "tuple") (rTupU K) := hK ▸ imp_c call_tuple_of fun xs H Q q => by
  unfold rTupU at q
  split at q
  · obtain ⟨ys, q⟩ := q
    exact ⟨_, ys, rfl, q⟩
  · exact q.elim
def rMin2U : List V → Hp → VK → Prop := fun xs H Q => match xs with
  | [.int i, .int j] => Q (.int (if j < i then j else i)) H
  | _ => False
def rMax2U : List V → Hp → VK → Prop := fun xs H Q => match xs with
  | [.int i, .int j] => Q (.int (if j > i then j else i)) H
  | _ => False
theorem callU_min2 (hc : X.calm = true) : CallR X (.builtin "min") rMin2U := imp_c (call_min2 hc) fun xs H Q q => by
  unfold rMin2U at q
  split at q
  · exact ⟨_, _, rfl, q⟩
  · exact q.elim
theorem callU_max2 (hc : X.calm = true) : CallR X (.builtin "max") rMax2U := imp_c (call_max2 hc) fun xs H Q q => by
  unfold rMax2U at q
  split at q
  · exact ⟨_, _, rfl, q⟩
  · exact q.elim
def rAllU (K : PySem.W.Frag) (f : List Bool → Bool) : List V → Hp → VK → Prop := fun xs H Q => match xs with
  | [.ref a] => ∃ bs : List Bool, SqL K H a (bs.map V.bl) ∧ Q (.bl (f bs)) H
  | _ => False
theorem callU_all {K : PySem.W.Frag} (hc : X.calm = true) (hK : X.K = K := by rfl) : CallR X (.builtin "all") (rAllU K fun bs => bs.all id) := hK ▸ imp_c (cr_all hc) fun xs H Q q => by
  unfold rAllU at q
  split at q
  · obtain ⟨bs, h, q⟩ := q
    exact ⟨_, bs, rfl, h, q⟩
  · exact q.elim
theorem callU_any {K : PySem.W.Frag} (hc : X.calm = true) (hK : X.K = K := by rfl) : CallR X (.builtin "any") (rAllU K fun bs => bs.any id) := hK ▸ imp_c (cr_any hc) fun xs H Q q => by
  unfold rAllU at q
  split at q
  · obtain ⟨bs, h, q⟩ := q
    exact ⟨_, bs, rfl, h, q⟩
  · exact q.elim
/-- xs[i] = v -/
def rSetU : V → V → V → Hp → (Hp → Prop) → Prop := fun o i v H Q => match o, i with
  | .ref p, .int k => ∃ xs j, H p = some (.lst xs) ∧ ixN xs.length k = some j ∧ Q (upd H p (.lst (xs.set j v)))
  | _, _ => False
theorem setU : PSet X rSetU := by
  intro pins s σ H o i v ov iv u Q I ro ri rv h
  refine set_list pins s σ H o i v ov iv u Q I ro ri rv ?_
  unfold rSetU at h
  split at h
  · obtain ⟨xs, j, h1, h2, q⟩ := h
    exact ⟨_, xs, _, j, rfl, rfl, h1, h2, q⟩
  · exact h.elim
end
/-! ### the rest with the written part told -/
section
variable {X : Cx} {K : PySem.W.Frag}
theorem pe_ty {x : Str} {pos : Pos} (n : String) (hm : X.mg x = none) (hv : bootBuiltins x = some (.type n) := by decide +kernel) (hg : Gl X x := by rfl) (hn : x ≠ "__name__" := by decide) (hd : (x == ("__debug__" : Str)) = false := by decide) : PE X (.Name x pos) (tC (.ty n)) :=
  pe_bltn hg hm hv rfl hn hd
theorem pi_listK {tg l : Expr} {tl : TE} (hl : PE X l tl) (hK : X.K = K := by rfl) : PI X tg l (iList K tl) := hK ▸ pi_list hl
theorem pi_tupK {tg l : Expr} {tl : TE} (hl : PE X l tl) (hK : X.K = K := by rfl) : PI X tg l (iTup K tl) := hK ▸ pi_tup hl
theorem pg_tupK {es : List Expr} {k : Nat} {t : TGs} {n : Nat} {pos : Pos} (hc : X.calm = true) (h : PGs X es t)
    (hn : (assignEach es X.env).length = n := by rfl) (hst : (assignEach es X.env).findIdx? (·.1) = none := by rfl) (hK : X.K = K := by rfl) : PG X (.Tuple es k pos) (gTup K n t) := hK ▸ pg_tup hc h hn hst
theorem pe_fldK {e : Expr} {f : Str} {ta : TE} {pos : Pos} (he : PE X e ta) (hb : attributeBase e f X.env (eval e X.env) = eval e X.env) (hK : X.K = K := by rfl) : PE X (.Attribute e f pos) (tFld K ta f) := hK ▸ pe_fld he hb
end
/-! ### defs -/
structure Ok (P : Program) (w : World) (K : PySem.W.Frag) (mg : Str → Option Value) (base : Heap) (k : Nat) (x : Str) (ps : List Str) (sp : Sp) : Prop where
  ex : ∃ f fd, mg x = some (.ref f) ∧ PySem.W.keepIn K (.ref f) = true ∧ Binds K fd ps [] ∧ FnOk P w K mg base (L2N.CX P w) k f fd ps sp
structure FnAt (K : PySem.W.Frag) (mg : Str → Option Value) (x qual : Str) (st : Stmt) (ps : List Str) : Prop where
  ex : ∃ f fd, mg x = some (.ref f) ∧ Fun K x qual st f fd ∧ Binds K fd ps []
theorem okF {P : Program} {w : World} {K : PySem.W.Frag} {mg : Str → Option Value} {base : Heap} {x qual : Str} {st : Stmt} {N ps : List Str} {k : Nat} {sp : Sp} (F : FnAt K mg x qual st ps) (S : FnScope N ps (defScope st)) (len : ∀ vs H Q E, sp vs H Q E → vs.length = ps.length)
    (hbody : ∀ (f : Addr) (cdv : Value) (A : Around) (outer : List Env) (s : Shared) (H : Hp) (vs : List V) (Q : VK) (E : XK), Room k (A.deeper (envOfC qual (defScope st) s.heap.objs.size f cdv)) → sp vs H Q E →
      ∃ t, PSs (cxOf (L2N.CX P w) P w K mg base N qual (defScope st) f cdv A outer s H (bE H E)) (defBody st) t ∧ t { nx := fun _ H' => bQ H Q .non H', rt := bQ H Q } (start N vs) H) : Ok P w K mg base (k + 1) x ps sp := by
  obtain ⟨f, fd, h1, h2, h3⟩ := F.ex
  exact ⟨f, fd, h1, h2.kp, h3, okX h2 S len (hbody f)⟩
section
variable {X : Cx} {k j : Nat} {x : Str} {ps : List Str} {sp : Sp} {E : XK} {p pos : Pos} {e : Expr} {es : List Expr} {t : TA}
def cCall (sp : Sp) (E : XK) (t : TA) : TE := fun σ H Q => t σ H fun vs H1 => sp vs H1 Q E
theorem pe_f (O : Ok X.prog X.w X.K X.mg X.base k x ps sp) (hr : Room k X.A) (hx : Passes (L2N.CX X.prog X.w) X E) (ha : PA X (e :: es) t) (hg : Gl X x := by rfl)
    (hdb : (x == ("__debug__" : Str)) = false := by decide) (he : starEach (e :: es) X.env = (false, eval e X.env) :: starEach es X.env := by rfl) (hpl : (backTo pos (starEach es X.env)).any (·.1) = false := by rfl) :
    PE X (.Call (.Name x p) (e :: es) [] pos) (cCall sp E t) := by
  obtain ⟨f, fd, h1, h2, h3, F⟩ := O.ex
  have ha' : PA X (e :: es) (fun σ H Q => ∃ Q0 : List V → Hp → Prop, (∀ v H', Q0 v H' → Q v H') ∧ t σ H Q0) := ⟨fun pos pins s σ H Q I q => by
    obtain ⟨Q0, w, z⟩ := q
    exact thn (ha.run pos pins s σ H Q0 I z) fun u s1 ⟨v, H1, I1, r, q1⟩ => ⟨v, H1, I1, r, w v H1 q1⟩⟩
  refine imp_e (pe_call F hr hg h1 h2 h3 .nil hx ha' hdb he hpl) fun σ H Q q => ⟨_, fun vs H1 z => ?_, q⟩
  show sp (vs ++ []) H1 Q E
  rw [List.append_nil]
  exact z
theorem pe_f0 (O : Ok X.prog X.w X.K X.mg X.base k x ps sp) (hr : Room k X.A) (hx : Passes (L2N.CX X.prog X.w) X E) (hg : Gl X x := by rfl)
    (hdb : (x == ("__debug__" : Str)) = false := by decide) : PE X (.Call (.Name x p) [] [] pos) (cCall sp E tNil) := by
  obtain ⟨f, fd, h1, h2, h3, F⟩ := O.ex
  exact imp_e (pe_call0 F hr hg h1 h2 h3 .nil hx hdb) fun σ H Q q => q
end
end R
namespace R
open PySem PySem.Spec PyProof.Rows L2
/-! ### arguments by their number -/
def arg1 (R : V → Prop) : List V → Prop | [a] => R a | _ => False
def arg2 (R : V → V → Prop) : List V → Prop | [a, b] => R a b | _ => False
def arg3 (R : V → V → V → Prop) : List V → Prop | [a, b, c] => R a b c | _ => False
def arg4 (R : V → V → V → V → Prop) : List V → Prop | [a, b, c, d] => R a b c d | _ => False
def arg5 (R : V → V → V → V → V → Prop) : List V → Prop | [a, b, c, d, e] => R a b c d e | _ => False
theorem arg1.ex {R : V → Prop} : ∀ {vs : List V}, arg1 R vs → ∃ a, vs = [a] ∧ R a
  | [a], h => ⟨a, rfl, h⟩
  | [], h => h.elim
  | _ :: _ :: _, h => h.elim
theorem arg2.ex {R : V → V → Prop} : ∀ {vs : List V}, arg2 R vs → ∃ a b, vs = [a, b] ∧ R a b
  | [a, b], h => ⟨a, b, rfl, h⟩
  | [], h => h.elim
  | [_], h => h.elim
  | _ :: _ :: _ :: _, h => h.elim
theorem arg3.ex {R : V → V → V → Prop} : ∀ {vs : List V}, arg3 R vs → ∃ a b c, vs = [a, b, c] ∧ R a b c
  | [a, b, c], h => ⟨a, b, c, rfl, h⟩
  | [], h => h.elim
  | [_], h => h.elim
  | [_, _], h => h.elim
  | _ :: _ :: _ :: _ :: _, h => h.elim
theorem arg4.ex {R : V → V → V → V → Prop} : ∀ {vs : List V}, arg4 R vs → ∃ a b c d, vs = [a, b, c, d] ∧ R a b c d
  | [a, b, c, d], h => ⟨a, b, c, d, rfl, h⟩
  | [], h => h.elim
  | [_], h => h.elim
  | [_, _], h => h.elim
  | [_, _, _], h => h.elim
  | _ :: _ :: _ :: _ :: _ :: _, h => h.elim
theorem arg5.ex {R : V → V → V → V → V → Prop} : ∀ {vs : List V}, arg5 R vs → ∃ a b c d e, vs = [a, b, c, d, e] ∧ R a b c d e
  | [a, b, c, d, e], h => ⟨a, b, c, d, e, rfl, h⟩
  | [], h => h.elim
  | [_], h => h.elim
  | [_, _], h => h.elim
  | [_, _, _], h => h.elim
  | [_, _, _, _], h => h.elim
  | _ :: _ :: _ :: _ :: _ :: _ :: _, h => h.elim
def arg6 (R : V → V → V → V → V → V →  Prop) : List V → Prop | [a, b, c, d, e, f] => R a b c d e f | _ => False
theorem arg6.ex {R : V → V → V → V → V → V →  Prop} : ∀ {vs : List V}, arg6 R vs → ∃ a b c d e f, vs = [a, b, c, d, e, f] ∧ R a b c d e f
  | [a, b, c, d, e, f], h => ⟨a, b, c, d, e, f, rfl, h⟩
  | [], h => h.elim
  | [_], h => h.elim
  | [_, _], h => h.elim
  | [_, _, _], h => h.elim
  | [_, _, _, _], h => h.elim
  | [_, _, _, _, _], h => h.elim
  | _ :: _ :: _ :: _ :: _ :: _ :: _ :: _, h => h.elim
def arg7 (R : V → V → V → V → V → V → V →  Prop) : List V → Prop | [a, b, c, d, e, f, g] => R a b c d e f g | _ => False
theorem arg7.ex {R : V → V → V → V → V → V → V →  Prop} : ∀ {vs : List V}, arg7 R vs → ∃ a b c d e f g, vs = [a, b, c, d, e, f, g] ∧ R a b c d e f g
  | [a, b, c, d, e, f, g], h => ⟨a, b, c, d, e, f, g, rfl, h⟩
  | [], h => h.elim
  | [_], h => h.elim
  | [_, _], h => h.elim
  | [_, _, _], h => h.elim
  | [_, _, _, _], h => h.elim
  | [_, _, _, _, _], h => h.elim
  | [_, _, _, _, _, _], h => h.elim
  | _ :: _ :: _ :: _ :: _ :: _ :: _ :: _ :: _, h => h.elim
def arg8 (R : V → V → V → V → V → V → V → V →  Prop) : List V → Prop | [a, b, c, d, e, f, g, h] => R a b c d e f g h | _ => False
theorem arg8.ex {R : V → V → V → V → V → V → V → V →  Prop} : ∀ {vs : List V}, arg8 R vs → ∃ a b c d e f g h, vs = [a, b, c, d, e, f, g, h] ∧ R a b c d e f g h
  | [a, b, c, d, e, f, g, h], hyp => ⟨a, b, c, d, e, f, g, h, rfl, hyp⟩
  | [], h => h.elim
  | [_], h => h.elim
  | [_, _], h => h.elim
  | [_, _, _], h => h.elim
  | [_, _, _, _], h => h.elim
  | [_, _, _, _, _], h => h.elim
  | [_, _, _, _, _, _], h => h.elim
  | [_, _, _, _, _, _, _], h => h.elim
  | _ :: _ :: _ :: _ :: _ :: _ :: _ :: _ :: _ :: _, h => h.elim
def arg9 (R : V → V → V → V → V → V → V → V → V →  Prop) : List V → Prop | [a, b, c, d, e, f, g, h, i] => R a b c d e f g h i | _ => False
theorem arg9.ex {R : V → V → V → V → V → V → V → V → V →  Prop} : ∀ {vs : List V}, arg9 R vs → ∃ a b c d e f g h i, vs = [a, b, c, d, e, f, g, h, i] ∧ R a b c d e f g h i
  | [a, b, c, d, e, f, g, h, i], hyp => ⟨a, b, c, d, e, f, g, h, i, rfl, hyp⟩
  | [], h => h.elim
  | [_], h => h.elim
  | [_, _], h => h.elim
  | [_, _, _], h => h.elim
  | [_, _, _, _], h => h.elim
  | [_, _, _, _, _], h => h.elim
  | [_, _, _, _, _, _], h => h.elim
  | [_, _, _, _, _, _, _], h => h.elim
  | [_, _, _, _, _, _, _, _], h => h.elim
  | _ :: _ :: _ :: _ :: _ :: _ :: _ :: _ :: _ :: _ :: _, h => h.elim
/-! ### heaps -/
theorem same_new {H : Hp} {p : Addr} {o : HO} (h : H p = none) : Same H (upd H p o) := fun b u e => by
  rw [upd_ne (ne_of_none e h)]
  exact e
theorem Wf.set {H : Hp} {p : Addr} {o : HO} (w : Wf H) (f : Flat o) (h : ∀ x, H p ≠ some (.own x)) : Wf (upd H p o) := fun a u e => by
  by_cases ha : a = p
  · subst ha
    rw [upd_same] at e
    cases e
    exact .inl f
  · rw [upd_ne ha] at e
    rcases w a u e with q | ⟨C, dx, fs, rfl, hd⟩
    · exact .inl q
    · refine .inr ⟨C, dx, fs, rfl, ?_⟩
      rw [upd_ne (fun z => h a (by rw [← z]; exact hd))]
      exact hd
theorem Wf.new {H : Hp} {p : Addr} {o : HO} (w : Wf H) (f : Flat o) (h : H p = none) : Wf (upd H p o) := w.set f fun x z => by rw [h] at z; cases z
theorem Wf.at {H : Hp} {p : Addr} {o u : HO} (w : Wf H) (f : Flat o) (h : H p = some u) (hu : ∀ x, u ≠ .own x) : Wf (upd H p o) := w.set f fun x z => by
  rw [h] at z
  exact hu x (Option.some.inj z)
theorem bQ.same {H H' : Hp} {Q : VK} {v : V} (w : Wf H) (s : Same H H') (q : Q v H) : bQ H Q v H' := ⟨H, ⟨s, fun a o e => by rw [e, s a o e], w⟩, q⟩
/-! ### a list of two numbers from which digits are drawn -/
def stL (p q : Int) : HO := .lst [.int p, .int q]
/-- it stands at a, its first number not below nought -/
def St2 (H : Hp) (a : Addr) : Prop := ∃ p q, H a = some (stL p q) ∧ 0 ≤ p
/-- all but it is as it was -/
structure Dr (a : Addr) (H H' : Hp) : Prop where
  kp : ∀ b o, b ≠ a → H b = some o → H' b = some o
  st : St2 H' a
  wf : Wf H'
theorem Dr.refl {a : Addr} {H : Hp} (s : St2 H a) (w : Wf H) : Dr a H H := ⟨fun _ _ _ h => h, s, w⟩
theorem Dr.trans {a : Addr} {H H1 H2 : Hp} (x : Dr a H H1) (y : Dr a H1 H2) : Dr a H H2 := ⟨fun b o n e => y.kp b o n (x.kp b o n e), y.st, y.wf⟩
theorem Dr.drawn {a : Addr} {H H1 : Hp} {p q : Int} (x : Dr a H H1) (h : 0 ≤ p) : Dr a H (upd H1 a (stL p q)) := by
  obtain ⟨p0, q0, e, _⟩ := x.st
  refine ⟨fun b o n e => ?_, ⟨p, q, upd_same, h⟩, x.wf.at trivial e fun x z => by cases z⟩
  rw [upd_ne n]
  exact x.kp b o n e
theorem Dr.new {a p : Addr} {o : HO} {H H1 : Hp} (x : Dr a H H1) (h : H1 p = none) (f : Flat o) : Dr a H (upd H1 p o) := by
  obtain ⟨p0, q0, e, h0⟩ := x.st
  refine ⟨fun b u n e => ?_, ⟨p0, q0, ?_, h0⟩, x.wf.new f h⟩
  · have q := x.kp b u n e
    rw [upd_ne (ne_of_none q h)]
    exact q
  · rw [upd_ne (ne_of_none e h)]
    exact e
theorem Dr.done {a : Addr} {H H' : Hp} {Q : VK} {v : V} (x : Dr a H H') (w : Wf H) (s : St2 H a) (q : ∀ p q, 0 ≤ p → Q v (upd H a (stL p q))) : bQ H Q v H' := by
  obtain ⟨p, q0, e, h⟩ := x.st
  obtain ⟨p1, q1, e1, _⟩ := s
  refine ⟨upd H a (stL p q0), ⟨fun b o z => ?_, fun b o z => ?_, w.at trivial e1 fun x z => by cases z⟩, q p q0 h⟩
  · by_cases hb : b = a
    · subst hb
      rw [upd_same] at z
      rw [e, z]
    · rw [upd_ne hb] at z
      exact x.kp b o hb z
  · by_cases hb : b = a
    · subst hb
      rw [upd_same, e]
    · rw [upd_ne hb, z, x.kp b o hb z]
theorem Dr.at {a b : Addr} {o : HO} {H H' : Hp} (x : Dr a H H') (h : H b = some o) (n : ∀ p q, o ≠ stL p q) (s : St2 H a) : H' b = some o := by
  obtain ⟨p, q, e, _⟩ := s
  exact x.kp b o (fun z => by subst z; rw [h] at e; exact n p q (Option.some.inj e)) h
/-- a place in a list, a text -/
theorem at_lt {α : Type} {xs : List α} {i : Int} (h0 : 0 ≤ i) (h1 : i < xs.length) : ∃ v, atI xs i = some v ∧ v ∈ xs := by
  obtain ⟨j, rfl⟩ : ∃ j : Nat, i = j := ⟨i.toNat, by omega⟩
  have hj : j < xs.length := by omega
  exact ⟨xs[j], atI_nat (List.getElem?_eq_getElem hj), List.getElem_mem hj⟩
theorem line_of {n : Nat} (h : n ≤ 16777216) : n ≤ sizeLine := by rw [sizeLine_eq]; exact h
theorem line_lt {n : Nat} (h : n < 16777216) : n < sizeLine := by rw [sizeLine_eq]; exact h
/-! ### types of values -/
def Known (K : PySem.W.Frag) (H : Hp) (v : V) : Prop := match v with
  | .non => True
  | .bl _ => True
  | .int _ => True
  | .str _ => True
  | .ref p => (∃ xs, H p = some (.lst xs)) ∨ (∃ xs, H p = some (.tup xs)) ∨ ∃ kvs, H p = some (.dK kvs)
  | _ => False
def isStr : V → Bool | .str _ => true | _ => false
def isInt : V → Bool | .int _ => true | .bl _ => true | _ => false
def isBl : V → Bool | .bl _ => true | _ => false
section
variable {K : PySem.W.Frag} {H : Hp}
theorem isi_ty {x : V} {n m : String} {b : Bool} (h : TyX K H x (.type n)) (e : kitB n m = some b) : IsiV K H x m b := ⟨_, h, kit_ty e⟩
theorem isi_str : ∀ {v : V}, Known K H v → IsiV K H v "str" (isStr v)
  | .non, _ => isi_ty (b := false) (.base .non) (by decide +kernel)
  | .bl _, _ => isi_ty (b := false) (.base (.bl _)) (by decide +kernel)
  | .int _, _ => isi_ty (b := false) (.base (.int _)) (by decide +kernel)
  | .str _, _ => isi_ty (b := true) (.base (.str _)) (by decide +kernel)
  | .ref _, .inl ⟨_, h⟩ => isi_ty (b := false) (.base (.lst h)) (by decide +kernel)
  | .ref _, .inr (.inl ⟨_, h⟩) => isi_ty (b := false) (.base (.tup h)) (by decide +kernel)
  | .ref _, .inr (.inr ⟨_, h⟩) => isi_ty (b := false) (.base (.dK h)) (by decide +kernel)
theorem isi_int : ∀ {v : V}, Known K H v → IsiV K H v "int" (isInt v)
  | .non, _ => isi_ty (b := false) (.base .non) (by decide +kernel)
  | .bl _, _ => isi_ty (b := true) (.base (.bl _)) (by decide +kernel)
  | .int _, _ => isi_ty (b := true) (.base (.int _)) (by decide +kernel)
  | .str _, _ => isi_ty (b := false) (.base (.str _)) (by decide +kernel)
  | .ref _, .inl ⟨_, h⟩ => isi_ty (b := false) (.base (.lst h)) (by decide +kernel)
  | .ref _, .inr (.inl ⟨_, h⟩) => isi_ty (b := false) (.base (.tup h)) (by decide +kernel)
  | .ref _, .inr (.inr ⟨_, h⟩) => isi_ty (b := false) (.base (.dK h)) (by decide +kernel)
theorem isi_bool : ∀ {v : V}, Known K H v → IsiV K H v "bool" (isBl v)
  | .non, _ => isi_ty (b := false) (.base .non) (by decide +kernel)
  | .bl _, _ => isi_ty (b := true) (.base (.bl _)) (by decide +kernel)
  | .int _, _ => isi_ty (b := false) (.base (.int _)) (by decide +kernel)
  | .str _, _ => isi_ty (b := false) (.base (.str _)) (by decide +kernel)
  | .ref _, .inl ⟨_, h⟩ => isi_ty (b := false) (.base (.lst h)) (by decide +kernel)
  | .ref _, .inr (.inl ⟨_, h⟩) => isi_ty (b := false) (.base (.tup h)) (by decide +kernel)
  | .ref _, .inr (.inr ⟨_, h⟩) => isi_ty (b := false) (.base (.dK h)) (by decide +kernel)
end
end R
namespace R
open PySem PySem.Spec PyProof.Rows L2
theorem iteP {p : Prop} [Decidable p] {A B : Prop} (h : p) (a : A) : if decide p = true then A else B := by
  rw [if_pos (decide_eq_true h)]
  exact a
theorem iteN {p : Prop} [Decidable p] {A B : Prop} (h : ¬ p) (b : B) : if decide p = true then A else B := by
  rw [if_neg (by rw [decide_eq_false h]; exact Bool.false_ne_true)]
  exact b
theorem iteC {p : Prop} [Decidable p] {A B : Prop} (a : p → A) (b : ¬ p → B) : if decide p = true then A else B := by
  by_cases h : p
  · exact iteP h (a h)
  · exact iteN h (b h)
/-- a comprehension without tests whose element changes nothing -/
theorem lc_map {J : It} {n : Nat} {G : Hp → Prop} {Y : Nat → Hp → V → Hp → Prop} (w : Walk J n G Y) (It' : Nat → V → Prop) (hy : ∀ i H x H', Y i H x H' → H' = H ∧ It' i x) (f : Nat → V) {g : TG} {te : TE} {vs : List Nat} {σ : L2.St} {H1 : Hp} {D : Addr} {Qd : Hp → Prop}
    (hn : n < sizeLine) (hG : ∀ o, G (upd H1 D o))
    (hs : ∀ (i : Nat) (x : V) (acc : List V) (C : V → Hp → Prop), i < n → It' i x → C (f i) (upd H1 D (.lst acc)) → g x (wipe σ vs) (upd H1 D (.lst acc)) fun σ2 H2 => wipe σ2 vs = wipe σ vs ∧ te σ2 H2 C)
    (hd : Qd (upd H1 D (.lst ((List.range n).map f)))) :
    ∃ W : Nat → Nat → Hp → Prop, (∃ m, W 0 m (upd H1 D (.lst []))) ∧ ∀ i m H, W i m H →
      (J.stop i H ∧ Qd H) ∨ (J.go i H ∧ ∃ Nx : Hp → Prop, (∀ H', Nx H' → ∃ m', m' < m ∧ W (i + 1) m' H') ∧ ∀ x H', J.yld i H x H' → g x (wipe σ vs) H' fun σ2 H2 => wipe σ2 vs = wipe σ vs ∧ tYes σ2 H2 fun b H3 =>
        if b = true then te σ2 H3 fun y H4 => ∃ acc, H4 D = some (.lst acc) ∧ acc.length < sizeLine ∧ Nx (upd H4 D (.lst (acc ++ [y]))) else Nx H3) := by
  refine ⟨fun i m H => m = n - i ∧ i ≤ n ∧ H = upd H1 D (.lst ((List.range i).map f)), ⟨n, by simp, Nat.zero_le _, rfl⟩, ?_⟩
  rintro i m H ⟨rfl, hi, rfl⟩
  by_cases hlt : i < n
  · refine .inr ⟨w.goes i _ hlt (hG _), fun H' => H' = upd H1 D (.lst ((List.range (i + 1)).map f)), fun H' e => ⟨n - (i + 1), by omega, rfl, hlt, e⟩, fun x H' y => ?_⟩
    obtain ⟨rfl, hx⟩ := hy _ _ _ _ (w.yields i _ x H' hlt (hG _) y)
    refine hs i x _ (fun y H4 => ∃ acc, H4 D = some (.lst acc) ∧ acc.length < sizeLine ∧ upd H4 D (.lst (acc ++ [y])) = upd H1 D (.lst ((List.range (i + 1)).map f))) hlt hx ⟨_, upd_same, ?_, ?_⟩
    · rw [List.length_map, List.length_range]
      exact Nat.lt_trans hlt hn
    · rw [upd_upd, List.range_succ, List.map_append]
      rfl
  · have e : i = n := by omega
    subst e
    exact .inl ⟨w.stops _ (hG _), hd⟩
theorem range_getD {α β : Type} (l : List α) (d : α) (f : α → β) : (List.range l.length).map (fun i => f (l.getD i d)) = l.map f := by
  apply List.ext_getElem
  · simp
  · intro i h1 h2
    simp at h1 h2 ⊢
    simp [List.getElem?_eq_getElem h1]
end R
namespace R
theorem iteB {c : Bool} {A B : Prop} (a : c = true → A) (b : c = false → B) : if c = true then A else B := by
  cases c with
  | true => rw [if_pos rfl]; exact a rfl
  | false => rw [if_neg Bool.false_ne_true]; exact b rfl
theorem nd_t {p : Prop} [Decidable p] (h : (!decide p) = true) : ¬ p := by simpa using h
theorem nd_f {p : Prop} [Decidable p] (h : (!decide p) = false) : p := by simpa using h
end R
namespace R
open PySem PySem.Spec PyProof.Rows L2
/-- a comprehension with tests whose parts change nothing -/
theorem lc_filt {J : It} {n : Nat} {G : Hp → Prop} {Y : Nat → Hp → V → Hp → Prop} (w : Walk J n G Y) (It' : Nat → V → Prop) (hy : ∀ i H x H', Y i H x H' → H' = H ∧ It' i x) (f : Nat → V) (p : Nat → Bool) {g : TG} {tt : TT} {te : TE} {vs : List Nat} {σ : L2.St} {H1 : Hp} {D : Addr} {Qd : Hp → Prop}
    (hn : n < sizeLine) (hG : ∀ o, G (upd H1 D o))
    (hs : ∀ (i : Nat) (x : V) (acc : List V) (C : V → Hp → Prop) (Cn : Hp → Prop), i < n → It' i x → (p i = true → C (f i) (upd H1 D (.lst acc))) → (p i = false → Cn (upd H1 D (.lst acc))) →
      g x (wipe σ vs) (upd H1 D (.lst acc)) fun σ2 H2 => wipe σ2 vs = wipe σ vs ∧ tt σ2 H2 fun b H3 => if b = true then te σ2 H3 C else Cn H3)
    (hd : Qd (upd H1 D (.lst (((List.range n).filter p).map f)))) :
    ∃ W : Nat → Nat → Hp → Prop, (∃ m, W 0 m (upd H1 D (.lst []))) ∧ ∀ i m H, W i m H →
      (J.stop i H ∧ Qd H) ∨ (J.go i H ∧ ∃ Nx : Hp → Prop, (∀ H', Nx H' → ∃ m', m' < m ∧ W (i + 1) m' H') ∧ ∀ x H', J.yld i H x H' → g x (wipe σ vs) H' fun σ2 H2 => wipe σ2 vs = wipe σ vs ∧ tt σ2 H2 fun b H3 =>
        if b = true then te σ2 H3 fun y H4 => ∃ acc, H4 D = some (.lst acc) ∧ acc.length < sizeLine ∧ Nx (upd H4 D (.lst (acc ++ [y]))) else Nx H3) := by
  refine ⟨fun i m H => m = n - i ∧ i ≤ n ∧ H = upd H1 D (.lst (((List.range i).filter p).map f)), ⟨n, by simp, Nat.zero_le _, rfl⟩, ?_⟩
  rintro i m H ⟨rfl, hi, rfl⟩
  by_cases hlt : i < n
  · refine .inr ⟨w.goes i _ hlt (hG _), fun H' => H' = upd H1 D (.lst (((List.range (i + 1)).filter p).map f)), fun H' e => ⟨n - (i + 1), by omega, rfl, hlt, e⟩, fun x H' y => ?_⟩
    obtain ⟨rfl, hx⟩ := hy _ _ _ _ (w.yields i _ x H' hlt (hG _) y)
    refine hs i x _ (fun y H4 => ∃ acc, H4 D = some (.lst acc) ∧ acc.length < sizeLine ∧ upd H4 D (.lst (acc ++ [y])) = upd H1 D (.lst (((List.range (i + 1)).filter p).map f))) _ hlt hx (fun hp => ⟨_, upd_same, ?_, ?_⟩) (fun hp => ?_)
    · rw [List.length_map]
      refine Nat.lt_of_le_of_lt (List.length_filter_le _ _) ?_
      rw [List.length_range]
      exact Nat.lt_trans hlt hn
    · rw [upd_upd, List.range_succ, List.filter_append, List.map_append, List.filter_cons_of_pos hp]
      rfl
    · rw [List.range_succ, List.filter_append, List.filter_cons_of_neg (by rw [hp]; exact Bool.false_ne_true)]
      simp
  · have e : i = n := by omega
    subst e
    exact .inl ⟨w.stops _ (hG _), hd⟩
theorem filt_getD {α β : Type} (l : List α) (d : α) (q : α → Bool) (f : α → β) : ((List.range l.length).filter fun i => q (l.getD i d)).map (fun i => f (l.getD i d)) = (l.filter q).map f := by
  have h : (List.range l.length).map (fun i => l.getD i d) = l := by
    have := range_getD l d id
    simpa using this
  have h2 : ((List.range l.length).filter fun i => q (l.getD i d)).map (fun i => l.getD i d) = l.filter q := by
    conv => rhs; rw [← h]
    rw [List.filter_map]
    rfl
  rw [← h2, List.map_map]
  rfl
theorem joinL_nil : ∀ ps : List (List Nat), TL.joinL [] ps = ps.flatten
  | [] => rfl
  | [p] => by simp [TL.joinL]
  | p :: q :: r => by
    show p ++ ([] ++ TL.joinL [] (q :: r)) = _
    rw [joinL_nil (q :: r)]
    rfl
theorem join_ones (cs : List Nat) : Txt.join (⟨#[]⟩ : Str) (cs.map fun c => (⟨#[c]⟩ : Str)) = ⟨cs.toArray⟩ := by
  have e : ∀ cs : List Nat, (cs.map fun c => [c]).flatten = cs := fun cs => by
    induction cs with
    | nil => rfl
    | cons c r ih =>
      rw [List.map_cons, List.flatten_cons, ih]
      rfl
  have h := SX.join_S [] (cs.map fun c => [c])
  rw [joinL_nil, List.map_map, e] at h
  exact h
theorem dp_strs {K : PySem.W.Frag} {H : Hp} : ∀ zs : List Str, DpAll K H (zs.map V.str) (zs.map PyData.str)
  | [] => .nil
  | z :: zs => .cons (.str z) (dp_strs zs)
theorem dp_ints {K : PySem.W.Frag} {H : Hp} : ∀ zs : List Int, DpAll K H (zs.map V.int) (zs.map PyData.int)
  | [] => .nil
  | z :: zs => .cons (.int z) (dp_ints zs)
end R
namespace R
open PySem PySem.Spec PyProof.Rows L2
theorem Dr.put {a D : Addr} {o u : HO} {H H1 : Hp} (x : Dr a H H1) (hD : H D = none) (e : H1 D = some u) (nu : ∀ x, u ≠ .own x) (f : Flat o) (n : D ≠ a) : Dr a H (upd H1 D o) := by
  obtain ⟨p0, q0, e0, h0⟩ := x.st
  refine ⟨fun b z nb eb => ?_, ⟨p0, q0, ?_, h0⟩, x.wf.at f e nu⟩
  · rw [upd_ne (ne_of_none eb hD)]
    exact x.kp b z nb eb
  · rw [upd_ne n.symm]
    exact e0
end R
namespace R
open PySem PySem.Spec PyProof.Rows L2
abbrev sOk (z : Str) : Prop := PyData.strOk z = true
theorem sOk_iff {z : Str} : sOk z ↔ ∀ c ∈ z.cps.toList, c < 0x110000 := by
  unfold sOk PyData.strOk
  rw [← Array.all_toList, List.all_eq_true]
  simp
theorem sOk_app {x y : Str} (h : sOk x) (g : sOk y) : sOk (x ++ y) := by
  rw [sOk_iff] at h g ⊢
  intro c hc
  have e := TL.tl_append x y
  have hc' : c ∈ TL.tl (x ++ y) := hc
  rw [e, List.mem_append] at hc'
  rcases hc' with q | q
  · exact h c q
  · exact g c q
theorem sOk_cut {z : Str} {lo hi : Option Int} (h : sOk z) : sOk (cutS z lo hi) := by
  rw [sOk_iff] at h ⊢
  intro c hc
  refine h c ?_
  have hc' : c ∈ (z.cps.toList.drop (HT.sIx z.length 0 lo)).take (HT.sIx z.length z.length hi - HT.sIx z.length 0 lo) := hc
  exact List.mem_of_mem_drop (List.mem_of_mem_take hc')
theorem sOk_list {cs : List Nat} (h : ∀ c ∈ cs, c < 0x110000) : sOk ⟨cs.toArray⟩ := sOk_iff.mpr (by simpa using h)
theorem sOk_one {c : Nat} (h : c < 0x110000) : sOk ⟨#[c]⟩ := sOk_list (cs := [c]) (by simpa using h)
theorem shape_strs {zs : List Str} (h : ∀ z ∈ zs, sOk z) : SeqAt.shaped (.list (zs.map .str)) = true := by
  have h1 : PyData.canLayAll0 (zs.map .str) = true := by
    induction zs with
    | nil => rfl
    | cons z r ih =>
      show (PyData.canLay0 (.str z) && PyData.canLayAll0 (r.map .str)) = true
      rw [ih fun y hy => h y (List.mem_cons_of_mem _ hy), Bool.and_true]
      exact h z List.mem_cons_self
  have h2 : PyData.depthAll (zs.map .str) = 0 := by
    clear h h1
    induction zs with
    | nil => rfl
    | cons z r ih =>
      show max 0 (PyData.depthAll (r.map .str)) = 0
      rw [ih]
      rfl
  unfold SeqAt.shaped
  show (PyData.canLayAll0 (zs.map .str) && decide (PyData.depthAll (zs.map .str) + 1 ≤ 64)) = true
  rw [h1, h2]
  rfl
/-- what behind a statement is wanted, told first -/
def sCut (t : TS) : TS := fun D σ H => ∃ P : L2.St → Hp → Prop, t { D with nx := P } σ H ∧ ∀ σ' H', P σ' H' → D.nx σ' H'
theorem ps_cut {X : Cx} {b : Stmt} {t : TS} (h : PS X b t) : PS X b (sCut t) := ⟨fun pins s σ H D I q => by
  obtain ⟨P, q1, q2⟩ := q
  refine thn (h.run pins s σ H _ I q1) fun f s1 z => ?_
  cases f with
  | next =>
    obtain ⟨σ', H', I', q⟩ := z
    exact ⟨σ', H', I', q2 _ _ q⟩
  | brk => exact z
  | cont => exact z
  | ret u => exact z⟩
/-- the same of a value -/
def eCut (t : TE) : TE := fun σ H Q => ∃ P : VK, t σ H P ∧ ∀ v H', P v H' → Q v H'
theorem pe_cut {X : Cx} {e : Expr} {t : TE} (h : PE X e t) : PE X e (eCut t) := ⟨fun pins s σ H Q I q => by
  obtain ⟨P, q1, q2⟩ := q
  exact thn (h.run pins s σ H _ I q1) fun u s1 ⟨v, H', I', r, q⟩ => ⟨v, H', I', r, q2 _ _ q⟩⟩
theorem wf_only {H : Hp} (h : Only H) : Wf H := fun a o e => by
  rcases h a with q | ⟨ob, xs, q⟩
  · rw [q] at e
    cases e
  · rw [q] at e
    cases e
    exact .inl trivial
theorem lt_one {c d : Nat} : (([c] : List Nat) < [d]) ↔ c < d := by
  rw [List.cons_lt_cons_iff]
  constructor
  · rintro (h | ⟨_, h⟩)
    · exact h
    · exact absurd h (List.lt_irrefl _)
  · exact .inl
end R
namespace R
theorem st_ne {H : L2.Hp} {a l : PySem.Addr} (s : St2 H a) (n : H l = none) : l ≠ a := fun e => by
  obtain ⟨_, _, e1, _⟩ := s
  rw [← e, n] at e1
  cases e1
theorem bE.same {H H' : L2.Hp} {E : L2.XK} {c : PySem.Value} {d : Option PySem.Addr} (w : Wf H) (s : L2.Same H H') (q : E c d H) : bE H E c d H' := ⟨H, ⟨s, fun a o e => by rw [e, s a o e], w⟩, q⟩
theorem bE.mk {H H' : L2.Hp} {E : L2.XK} {c : PySem.Value} {d : Option PySem.Addr} (w : Wf H') (q : E c d H') : bE H E c d H' := ⟨H', Back.refl w, q⟩
end R
namespace R
open PySem PySem.Spec PyProof.Rows L2
/-! ### what is known of a value's type; data -/
/-- its type is one of the plain ones -/
def Kn (K : PySem.W.Frag) (H : Hp) (v : V) : Prop := match v with
  | .non => True
  | .bl _ => True
  | .int _ => True
  | .str _ => True
  | .ref p => TyX K H (.ref p) (.type "list") ∨ TyX K H (.ref p) (.type "tuple") ∨ TyX K H (.ref p) (.type "dict")
  | _ => False
section
variable {K : PySem.W.Frag} {H H' : Hp}
theorem ty_l {p : Addr} {xs : List V} (h : SqL K H p xs) : TyX K H (.ref p) (.type "list") := by
  rcases h with (h | ⟨o, h⟩) | ⟨o, _, _, h, c, _⟩
  · exact .base (.lst h)
  · exact .base (.frz h)
  · exact .kList h c
theorem ty_t {p : Addr} {xs : List V} (h : SqT K H p xs) : TyX K H (.ref p) (.type "tuple") := by
  rcases h with (h | ⟨o, h⟩) | ⟨o, _, _, h, c, _⟩
  · exact .base (.tup h)
  · exact .fTuple h
  · exact .kTuple h c
theorem Known.kn : ∀ {v : V}, Known K H v → Kn K H v
  | .non, h => h
  | .bl _, h => h
  | .int _, h => h
  | .str _, h => h
  | .ref _, .inl ⟨_, h⟩ => .inl (.base (.lst h))
  | .ref _, .inr (.inl ⟨_, h⟩) => .inr (.inl (.base (.tup h)))
  | .ref _, .inr (.inr ⟨_, h⟩) => .inr (.inr (.base (.dK h)))
  | .byt _, h => h.elim
  | .flt _, h => h.elim
  | .ty _, h => h.elim
theorem kn_dp {v : V} {d : PyData} (h : Dp K H v d) : Kn K H v := by
  cases h with
  | non => trivial
  | bl _ => trivial
  | int _ => trivial
  | str _ => trivial
  | lst h _ => exact .inl (ty_l h)
  | tup h _ => exact .inr (.inl (ty_t h))
theorem isk_str : ∀ {v : V}, Kn K H v → IsiV K H v "str" (isStr v)
  | .non, _ => isi_ty (b := false) (.base .non) (by decide +kernel)
  | .bl _, _ => isi_ty (b := false) (.base (.bl _)) (by decide +kernel)
  | .int _, _ => isi_ty (b := false) (.base (.int _)) (by decide +kernel)
  | .str _, _ => isi_ty (b := true) (.base (.str _)) (by decide +kernel)
  | .ref _, .inl h => isi_ty (b := false) h (by decide +kernel)
  | .ref _, .inr (.inl h) => isi_ty (b := false) h (by decide +kernel)
  | .ref _, .inr (.inr h) => isi_ty (b := false) h (by decide +kernel)
theorem isk_int : ∀ {v : V}, Kn K H v → IsiV K H v "int" (isInt v)
  | .non, _ => isi_ty (b := false) (.base .non) (by decide +kernel)
  | .bl _, _ => isi_ty (b := true) (.base (.bl _)) (by decide +kernel)
  | .int _, _ => isi_ty (b := true) (.base (.int _)) (by decide +kernel)
  | .str _, _ => isi_ty (b := false) (.base (.str _)) (by decide +kernel)
  | .ref _, .inl h => isi_ty (b := false) h (by decide +kernel)
  | .ref _, .inr (.inl h) => isi_ty (b := false) h (by decide +kernel)
  | .ref _, .inr (.inr h) => isi_ty (b := false) h (by decide +kernel)
theorem isk_bool : ∀ {v : V}, Kn K H v → IsiV K H v "bool" (isBl v)
  | .non, _ => isi_ty (b := false) (.base .non) (by decide +kernel)
  | .bl _, _ => isi_ty (b := true) (.base (.bl _)) (by decide +kernel)
  | .int _, _ => isi_ty (b := false) (.base (.int _)) (by decide +kernel)
  | .str _, _ => isi_ty (b := false) (.base (.str _)) (by decide +kernel)
  | .ref _, .inl h => isi_ty (b := false) h (by decide +kernel)
  | .ref _, .inr (.inl h) => isi_ty (b := false) h (by decide +kernel)
  | .ref _, .inr (.inr h) => isi_ty (b := false) h (by decide +kernel)
def isTupD : PyData → Bool | .tuple _ => true | _ => false
theorem isk_tup {v : V} {d : PyData} (h : Dp K H v d) : IsiV K H v "tuple" (isTupD d) := by
  cases h with
  | non => exact isi_ty (b := false) (.base .non) (by decide +kernel)
  | bl _ => exact isi_ty (b := false) (.base (.bl _)) (by decide +kernel)
  | int _ => exact isi_ty (b := false) (.base (.int _)) (by decide +kernel)
  | str _ => exact isi_ty (b := false) (.base (.str _)) (by decide +kernel)
  | lst h _ => exact isi_ty (b := false) (ty_l h) (by decide +kernel)
  | tup h _ => exact isi_ty (b := true) (ty_t h) (by decide +kernel)
def isLstD : PyData → Bool | .list _ => true | _ => false
theorem isk_lst {v : V} {d : PyData} (h : Dp K H v d) : IsiV K H v "list" (isLstD d) := by
  cases h with
  | non => exact isi_ty (b := false) (.base .non) (by decide +kernel)
  | bl _ => exact isi_ty (b := false) (.base (.bl _)) (by decide +kernel)
  | int _ => exact isi_ty (b := false) (.base (.int _)) (by decide +kernel)
  | str _ => exact isi_ty (b := false) (.base (.str _)) (by decide +kernel)
  | lst h _ => exact isi_ty (b := true) (ty_l h) (by decide +kernel)
  | tup h _ => exact isi_ty (b := false) (ty_t h) (by decide +kernel)
/-- what data lean on: every address's object that is read -/
theorem sqt_keep {p : Addr} {xs : List V} (k : ∀ o, H p = some o → H' p = some o) (h : SqT K H p xs) : SqT K H' p xs := by
  rcases h with (h | ⟨o, h⟩) | h
  · exact .inl (.inl (k _ h))
  · exact .inl (.inr ⟨o, k _ h⟩)
  · exact .inr h
theorem sql_keep {p : Addr} {xs : List V} (k : ∀ o, H p = some o → H' p = some o) (h : SqL K H p xs) : SqL K H' p xs := by
  rcases h with (h | ⟨o, h⟩) | h
  · exact .inl (.inl (k _ h))
  · exact .inl (.inr ⟨o, k _ h⟩)
  · exact .inr h
mutual
theorem dp_keep (k : ∀ p o, H p = some o → H' p = some o) : ∀ {v : V} {d : PyData}, Dp K H v d → Dp K H' v d
  | _, _, .non => .non
  | _, _, .bl b => .bl b
  | _, _, .int i => .int i
  | _, _, .str z => .str z
  | _, _, .lst h a => .lst (sql_keep (k _) h) (dpa_keep k a)
  | _, _, .tup h a => .tup (sqt_keep (k _) h) (dpa_keep k a)
theorem dpa_keep (k : ∀ p o, H p = some o → H' p = some o) : ∀ {vs : List V} {ds : List PyData}, DpAll K H vs ds → DpAll K H' vs ds
  | _, _, .nil => .nil
  | _, _, .cons h a => .cons (dp_keep k h) (dpa_keep k a)
end
theorem dpa_len : ∀ {vs : List V} {ds : List PyData}, DpAll K H vs ds → vs.length = ds.length
  | _, _, .nil => rfl
  | _, _, .cons _ a => congrArg (· + 1) (dpa_len a)
theorem dpa_at : ∀ {vs : List V} {ds : List PyData}, DpAll K H vs ds → ∀ {i : Nat} {v : V}, vs[i]? = some v → ∃ d, ds[i]? = some d ∧ Dp K H v d
  | _, _, .nil, i, v, e => by simp at e
  | _, _, .cons h _, 0, v, e => by cases Option.some.inj e; exact ⟨_, rfl, h⟩
  | _, _, .cons _ a, i + 1, v, e => dpa_at a (i := i) (by simpa using e)
/-- data that do not lean on what stands at a -/
def hid (a : Addr) (H : Hp) : Hp := fun b => if b = a then none else H b
abbrev Da (K : PySem.W.Frag) (a : Addr) (H : Hp) (v : V) (d : PyData) : Prop := Dp K (hid a H) v d
theorem Da.dp {a : Addr} {v : V} {d : PyData} (h : Da K a H v d) : Dp K H v d := dp_keep (fun p o e => by
  unfold hid at e
  split at e
  · cases e
  · exact e) h
theorem Da.dr {a : Addr} {v : V} {d : PyData} (h : Da K a H v d) (x : Dr a H H') : Da K a H' v d := dp_keep (fun p o e => by
  unfold hid at e ⊢
  split at e
  · cases e
  · rename_i n
    rw [if_neg n]
    exact x.kp p o n e) h
theorem dp_ne {a : Addr} {v : V} {d : PyData} (n : H a = none) (h : Dp K H v d) : Da K a H v d := dp_keep (fun p o e => by
  unfold hid
  rw [if_neg (ne_of_none e n)]
  exact e) h
/-- equality of data -/
theorem eq_d {v u : V} {d e : PyData} {Q : VK} (h : Dp K H v d) (g : Dp K H u e) (s1 : SeqAt.shaped d = true) (s2 : SeqAt.shaped e = true) (hs : scal v u = false) (q : Q (.bl (PyData.eqv d e)) H) : rEqU K v u H Q := by
  unfold rEqU
  rw [hs]
  exact ⟨d, e, h, g, s1, s2, q⟩
end
/-! ### own exceptions over ValueError, without an own __init__ -/
abbrev veB : List Value := [.type "ValueError", .type "Exception", .type "BaseException", .type "object"]
/-- what the class at C, named x, must say -/
structure Exc (K : PySem.W.Frag) (mg : Str → Option Value) (x : Str) (C : Addr) : Prop where
  g : mg x = some (.ref C)
  x : PySem.W.excIn K C veB "ValueError.__new__" = true
  k : PySem.W.keepIn K (.ref C) = true
  b : PySem.W.subIn K (.ref C) (.type "BaseException") = some true
  t : PySem.W.typeIn K (.ref C) = some (.type "type")
  d : PySem.W.hasDictIn K C = true
  v : PySem.W.subIn K (.ref C) (.type "ValueError") = some true
  cc : ExcC K C
theorem pmk_exc {X : Cx} {x m : Str} {C : Addr} {j : Nat} {p p2 pos : Pos} (e : Exc X.K X.mg x C) (hg : Gl X x := by rfl) (hdb : (x == ("__debug__" : Str)) = false := by decide) :
    L2N.PMk X (.Call (.Name x p) [.Constant (.str m) j p2] [] pos) (fun _ H Q => Q (.ref C) none H) :=
  L2N.pmk_own PySem.F.excBase_ValueError e.x e.g e.k (raises_own e.b e.t) hg hdb
theorem ps_rai {X : Cx} {x m : Str} {C : Addr} {j : Nat} {p p2 pos pos2 : Pos} {W : WX} (e : Exc X.K X.mg x C) (tk : L2N.Takes X W) (hc : X.calm = true := by rfl) (hg : Gl X x := by rfl) (hdb : (x == ("__debug__" : Str)) = false := by decide) :
    PS X (.Raise (some (.Call (.Name x p) [.Constant (.str m) j p2] [] pos)) none pos2) (fun _ σ H => W (.ref C) none σ H) := L2N.ps_raise hc tk (pmk_exc e hg hdb)
/-- C is under D, or not -/
theorem exc_under {K : PySem.W.Frag} {mg : Str → Option Value} {x y : Str} {C D : Addr} {b : Bool} (e : Exc K mg x C) (f : Exc K mg y D) (h : PySem.W.subIn K (.ref C) (.ref D) = some b) : PySem.W.exmOne K (.ref C) (.ref D) = some b := PySem.W.exm_ref f.b f.d f.t h
theorem exc_kit {K : PySem.W.Frag} {mg : Str → Option Value} {x y : Str} {C D : Addr} {b : Bool} (f : Exc K mg y D) (hne : C = D → b = true) (h : PySem.W.subIn K (.ref C) (.ref D) = some b) : PySem.W.kitOne K (.ref C) (.ref D) = some b := by
  unfold PySem.W.kitOne
  by_cases e : C = D
  · subst e
    rw [hne rfl]
    simp
  · have n : ((Value.ref C) == Value.ref D) = false := by
      simp only [beq_eq_false_iff_ne, ne_eq, Value.ref.injEq]
      exact e
    rw [n]
    have z := PySem.W.exm_ref f.b f.d f.t h
    unfold PySem.W.exmOne at z
    rw [f.b] at z
    simpa using z
/-- isinstance(e, c) in a suite -/
def rIsX (K : PySem.W.Frag) (cls : Value) (d : Option Addr) (a : Addr) : List V → Hp → VK → Prop := fun xs H Q => ∃ D, cls = .ref D ∧ d = none ∧ ExcC K D ∧ rIsE K D a xs H Q
theorem callU_isX {X : Cx} {K : PySem.W.Frag} {a : Addr} {cls : Value} {d : Option Addr} {oe : Obj} {pn : List (Addr × Obj)} (hz : L2N.Zn cls d oe) (hf : ∃ vs, oe.data = .fields vs) (hK : X.K = K := by rfl) : CallR (X.suite a ((a, oe) :: pn)) (.builtin "isinstance") (rIsX K cls d a) := by
  subst hK
  intro pins s σ H xs us Q I r h
  obtain ⟨D, rfl, rfl, c, h⟩ := h
  exact call_isE c hz.zc hf pins s σ H xs us Q I r h
/-- try .. except x as n -/
theorem ps_tryA {X : Cx} {K : PySem.W.Frag} {x n : Str} {C : Addr} {i : Nat} {body suite : List Stmt} {b₀ : Stmt} {np pos pos' : Pos} {tb : WX → TS} {ts : Addr → Value → Option Addr → TS} {Wout : WX} (e : Exc X.K X.mg x C) (hN : X.N.Nodup) (hi : X.N[i]? = some n) (tk : L2N.Takes X Wout)
    (hb : ∀ (W : WX) (pn : List (Addr × Obj)) (xe : Value → Shared → Prop), L2N.Takes (X.tr pn xe) W → PassesOwn (model X.prog X.w) X.A X.env xe → PSs (X.tr pn xe) body (tb W))
    (hsu : ∀ (a : Addr) (oe : Obj) (cls : Value) (d : Option Addr) (pn : List (Addr × Obj)), L2N.Zn cls d oe → (∃ vs, oe.data = .fields vs) → PSs (X.suite a ((a, oe) :: pn)) (b₀ :: suite) (ts a cls d))
    (hs : X.stack = X.env :: X.outer := by rfl) (hf : X.env.frame = some X.env.locals := by rfl) (hln : X.env.kindOf n = some .local := by rfl) (hg : Gl X x := by rfl) (hdb : (x == ("__debug__" : Str)) = false := by decide) (hK : X.K = K := by rfl) :
    PS X (.Try body [.ExceptHandler (some (.Name x np)) (some n) (b₀ :: suite) pos'] [] [] pos) (fun D σ H => tb (wAs K (.ref C) i ts Wout D) D σ H) := by
  subst hK
  exact L2N.ps_try_as hs hf hN hi hln ⟨hg, hdb, .inl e.g⟩ tk hb hsu
/-- try .. except x -/
theorem ps_tryO {X : Cx} {K : PySem.W.Frag} {x : Str} {C : Addr} {body suite : List Stmt} {b₀ : Stmt} {np pos pos' : Pos} {tb : WX → TS} {ts : Addr → Value → Option Addr → TS} {Wout : WX} (e : Exc X.K X.mg x C) (tk : L2N.Takes X Wout)
    (hb : ∀ (W : WX) (pn : List (Addr × Obj)) (xe : Value → Shared → Prop), L2N.Takes (X.tr pn xe) W → PassesOwn (model X.prog X.w) X.A X.env xe → PSs (X.tr pn xe) body (tb W))
    (hsu : ∀ (a : Addr) (oe : Obj) (cls : Value) (d : Option Addr) (pn : List (Addr × Obj)), L2N.Zn cls d oe → (∃ vs, oe.data = .fields vs) → PSs (X.suite a ((a, oe) :: pn)) (b₀ :: suite) (ts a cls d))
    (hs : X.stack = X.env :: X.outer := by rfl) (hf : X.env.frame = some X.env.locals := by rfl) (hg : Gl X x := by rfl) (hdb : (x == ("__debug__" : Str)) = false := by decide) (hK : X.K = K := by rfl) :
    PS X (.Try body [.ExceptHandler (some (.Name x np)) none (b₀ :: suite) pos'] [] [] pos) (fun D σ H => tb (wOnly K (.ref C) ts Wout D) D σ H) := by
  subst hK
  exact imp_s (L2N.ps_try_many hs hf tk hb (.cons ⟨hg, hdb, .inl e.g⟩ hsu .nil)) fun D σ H q => q
/-- a call that may raise: what is wished at the caller's slots -/
def cCallE (sp : Sp) (W : WX) (t : TA) : TE := fun σ H Q => t σ H fun vs H1 => sp vs H1 Q fun c d H' => W c d σ H'
end R
namespace R
open PySem PySem.Spec PyProof.Rows L2
section
variable {X : Cx} {k j : Nat} {x m : Str} {ps : List Str} {sp : Sp} {W : WX} {p pos apos : Pos} {e o : Expr} {es : List Expr} {ta : TE} {t : TA} {C : Addr}
theorem mono_a {es : List Expr} {t : TA} (ha : PA X es t) : PA X es (fun σ H Q => ∃ Q0 : List V → Hp → Prop, (∀ v H', Q0 v H' → Q v H') ∧ t σ H Q0) := ⟨fun pos pins s σ H Q I q => by
  obtain ⟨Q0, w, z⟩ := q
  exact thn (ha.run pos pins s σ H Q0 I z) fun u s1 ⟨v, H1, I1, r, q1⟩ => ⟨v, H1, I1, r, w v H1 q1⟩⟩
/-- f(..), f may raise -/
theorem pe_fS (O : Ok X.prog X.w X.K X.mg X.base k x ps sp) (hr : Room k X.A) (tk : L2N.Takes X W) (ha : PA X (e :: es) t) (hg : Gl X x := by rfl)
    (hdb : (x == ("__debug__" : Str)) = false := by decide) (he : starEach (e :: es) X.env = (false, eval e X.env) :: starEach es X.env := by rfl) (hpl : (backTo pos (starEach es X.env)).any (·.1) = false := by rfl) :
    PE X (.Call (.Name x p) (e :: es) [] pos) (cCallE sp W t) := by
  obtain ⟨f, fd, h1, h2, h3, F⟩ := O.ex
  exact pe_callS F hr hg h1 h2 h3 (fun σ => L2N.passAt tk σ) ha hdb he hpl
/-- a class's def: at C found by the name m -/
structure MtAt (K : PySem.W.Frag) (C : Addr) (m qual : Str) (st : Stmt) (ps : List Str) : Prop where
  ex : ∃ f fd, Meth K C m f ∧ Fun K m qual st f fd ∧ Binds K fd ps []
structure OkM (P : Program) (w : World) (K : PySem.W.Frag) (mg : Str → Option Value) (base : Heap) (k : Nat) (C : Addr) (m : Str) (ps : List Str) (sp : Sp) : Prop where
  ex : ∃ f fd, Meth K C m f ∧ Binds K fd ps [] ∧ FnOk P w K mg base (L2N.CX P w) k f fd ps sp
theorem okM {P : Program} {w : World} {K : PySem.W.Frag} {mg : Str → Option Value} {base : Heap} {m qual : Str} {st : Stmt} {N ps : List Str} {k : Nat} {sp : Sp} {C : Addr} (F : MtAt K C m qual st ps) (S : FnScope N ps (defScope st)) (len : ∀ vs H Q E, sp vs H Q E → vs.length = ps.length)
    (hbody : ∀ (f : Addr) (cdv : Value) (A : Around) (outer : List Env) (s : Shared) (H : Hp) (vs : List V) (Q : VK) (E : XK), Room k (A.deeper (envOfC qual (defScope st) s.heap.objs.size f cdv)) → sp vs H Q E →
      ∃ t, PSs (cxOf (L2N.CX P w) P w K mg base N qual (defScope st) f cdv A outer s H (bE H E)) (defBody st) t ∧ t { nx := fun _ H' => bQ H Q .non H', rt := bQ H Q } (start N vs) H) : OkM P w K mg base (k + 1) C m ps sp := by
  obtain ⟨f, fd, h1, h2, h3⟩ := F.ex
  exact ⟨f, fd, h1, h3, okX h2 S len (hbody f)⟩
def cMeth (CS : Addr → Prop) (m : Str) (sp : Addr → Sp) (W : WX) (ta : TE) (t : TA) : TE := fun σ H Q => ta σ H fun x H1 => ∃ a C dx fs, x = .ref a ∧ H1 a = some (.ins C dx fs) ∧ CS C ∧ fs.lookup m = none ∧
  t σ H1 fun vs H2 => sp C (x :: vs) H2 Q fun c d H' => W c d σ H'
/-- o.m(..), of an instance of one of the classes CS -/
theorem pe_mS {CS : Addr → Prop} {sp : Addr → Sp} {pl : Sem Bool} (he : PE X o ta) (c : ∀ C, CS C → Cls X.K C) (O : ∀ C, CS C → OkM X.prog X.w X.K X.mg X.base k C m ps (sp C)) (hr : Room k X.A) (tk : L2N.Takes X W) (ha : PA X (e :: es) t)
    (hst : starEach (e :: es) X.env = (false, eval e X.env) :: starEach es X.env := by rfl) (hpl : (backTo pos (starEach es X.env)).any (·.1) = false := by rfl)
    (ht : eval (.Call (.Attribute o m apos) (e :: es) [] pos) X.env = (do
      let ov ← eval o X.env
      standAt apos.atName
      let (f, first) ← holding [ov] (getMethod ov m pl)
      callWith pos f first (backTo pos (starEach (e :: es) X.env)) (backToKw pos (keywordEach [] X.env))) := by rfl) :
    PE X (.Call (.Attribute o m apos) (e :: es) [] pos) (cMeth CS m sp W ta t) := by
  refine ⟨fun pins s σ H Q I h => ?_⟩
  refine PySem.W.methodCall_KW (pl := pl) (thn (he.run pins s σ H _ I h) fun u s1 ⟨x, H1, I1, rx, a, C, dx, fs, ex, ea, cs, l, q⟩ => ?_) ht
  subst ex
  obtain rfl : u = Value.ref a := rx
  obtain ⟨f, fd, hm, hb, F⟩ := (O C cs).ex
  refine getmeth_ok I1 ea (c C cs) hm l ?_
  refine PySem.W.callWith_K (first := [.ref a]) (h₀ := X.base) I.ok.mod.kin hm.kp (thn (ha.run pos pins s1 σ H1 _ I1 q) fun us s2 ⟨vs, H2, I2, r, q2⟩ => ⟨I2.kIn, ?_⟩) hst hpl
  exact run_fnS (us := .ref a :: us) (vs := .ref a :: vs) F hr hb (L2N.passAt tk σ) I2 (.cons rfl r) q2
theorem pe_mS0 {CS : Addr → Prop} {sp : Addr → Sp} {pl : Sem Bool} (he : PE X o ta) (c : ∀ C, CS C → Cls X.K C) (O : ∀ C, CS C → OkM X.prog X.w X.K X.mg X.base k C m ps (sp C)) (hr : Room k X.A) (tk : L2N.Takes X W)
    (ht : eval (.Call (.Attribute o m apos) [] [] pos) X.env = (do
      let ov ← eval o X.env
      standAt apos.atName
      let (f, first) ← holding [ov] (getMethod ov m pl)
      callWith pos f first (backTo pos (starEach [] X.env)) (backToKw pos (keywordEach [] X.env))) := by rfl) :
    PE X (.Call (.Attribute o m apos) [] [] pos) (cMeth CS m sp W ta tNil) := by
  refine ⟨fun pins s σ H Q I h => ?_⟩
  refine PySem.W.methodCall_KW (pl := pl) (thn (he.run pins s σ H _ I h) fun u s1 ⟨x, H1, I1, rx, a, C, dx, fs, ex, ea, cs, l, q⟩ => ?_) ht
  subst ex
  obtain rfl : u = Value.ref a := rx
  obtain ⟨f, fd, hm, hb, F⟩ := (O C cs).ex
  refine getmeth_ok I1 ea (c C cs) hm l ?_
  exact PySem.W.callWith_K0 (first := [.ref a]) I1.kIn hm.kp (run_fnS (us := [.ref a]) (vs := [.ref a]) F hr hb (L2N.passAt tk σ) I1 (.cons rfl .nil) q)
/-- a class that makes instances -/
structure MkAt (K : PySem.W.Frag) (mg : Str → Option Value) (x : Str) (C : Addr) (qual : Str) (st : Stmt) (ps : List Str) : Prop where
  ex : mg x = some (.ref C) ∧ ∃ f fd, Mk K C f ∧ Fun K "__init__" qual st f fd ∧ Binds K fd ps []
structure OkI (P : Program) (w : World) (K : PySem.W.Frag) (mg : Str → Option Value) (base : Heap) (k : Nat) (x : Str) (C : Addr) (ps : List Str) (sp : Sp) : Prop where
  ex : mg x = some (.ref C) ∧ ∃ f fd, Mk K C f ∧ Binds K fd ps [] ∧ FnOk P w K mg base (L2N.CX P w) k f fd ps sp
theorem okI {P : Program} {w : World} {K : PySem.W.Frag} {mg : Str → Option Value} {base : Heap} {x qual : Str} {st : Stmt} {N ps : List Str} {k : Nat} {sp : Sp} {C : Addr} (F : MkAt K mg x C qual st ps) (S : FnScope N ps (defScope st)) (len : ∀ vs H Q E, sp vs H Q E → vs.length = ps.length)
    (hbody : ∀ (f : Addr) (cdv : Value) (A : Around) (outer : List Env) (s : Shared) (H : Hp) (vs : List V) (Q : VK) (E : XK), Room k (A.deeper (envOfC qual (defScope st) s.heap.objs.size f cdv)) → sp vs H Q E →
      ∃ t, PSs (cxOf (L2N.CX P w) P w K mg base N qual (defScope st) f cdv A outer s H (bE H E)) (defBody st) t ∧ t { nx := fun _ H' => bQ H Q .non H', rt := bQ H Q } (start N vs) H) : OkI P w K mg base (k + 1) x C ps sp := by
  obtain ⟨g, f, fd, h1, h2, h3⟩ := F.ex
  exact ⟨g, f, fd, h1, h3, okX h2 S len (hbody f)⟩
/-- C(..) -/
def cMake (C : Addr) (sp : Sp) (W : WX) (t : TA) : TE := fun σ H Q => t σ H fun vs H1 => ∀ x dx, H1 x = none → H1 dx = none → dx ≠ x →
  sp (.ref x :: vs) (upd (upd H1 dx (.own x)) x (.ins C dx [])) (fun v H2 => v = .non ∧ Q (.ref x) H2) fun c d H' => W c d σ H'
theorem run_makeS {pins : List (Addr × Obj)} {σ : L2.St} {H : Hp} {s : Shared} {Q : VK} {us : List Value} {vs : List V} {f : Addr} {fd : FuncData} (M : Mk X.K C f) (F : FnOk X.prog X.w X.K X.mg X.base (L2N.CX X.prog X.w) k f fd ps sp) (hr : Room (k + 1) X.A) (hb : Binds X.K fd ps []) (tk : L2N.Takes X W)
    (I : Inv X pins σ H s) (r : Vals vs us)
    (h : ∀ x dx, H x = none → H dx = none → dx ≠ x → sp (.ref x :: vs) (upd (upd H dx (.own x)) x (.ins C dx [])) (fun v H2 => v = .non ∧ Q (.ref x) H2) fun c d H' => W c d σ H') :
    wpAny (model X.prog X.w) X.A (call (.ref C) us) (EP X pins σ Q) X.xe s := by
  have hq := h (s.heap.objs.size + 1) s.heap.objs.size (I.hok.fresh (Nat.le_succ _)) (I.hok.fresh (Nat.le_refl _)) (Nat.ne_of_lt (Nat.lt_succ_self _))
  have I2 := Inv.made (C := C) I
  have r2 : Vals (V.ref (s.heap.objs.size + 1) :: vs) (Value.ref (s.heap.objs.size + 1) :: us) := .cons rfl r
  have hl : (Value.ref (s.heap.objs.size + 1) :: us).length = ps.length := by
    have e := r2.length
    rw [F.len _ _ _ _ hq] at e
    exact e.symm
  have b := hb _ (Value.ref (s.heap.objs.size + 1) :: us) I2.kIn (by rw [List.append_nil]; exact hl)
  rw [List.append_nil] at b
  refine wpAny_call (make_map (f := f) I.kIn M.makes M.init (beq_iff_eq.mp M.fn) (codeAny_mono (F.run _ X.stack _ _ ⟨Value.ref (s.heap.objs.size + 1) :: us, []⟩ (Value.ref (s.heap.objs.size + 1) :: us) _ _ _ (hr.make C us [])
    (I2.env0.make C us []) b r2 hq) fun r s' hq' => ?_))
  cases r with
  | error e => exact L2N.passAt tk σ pins _ _ e s' I2 hq'
  | ok fl =>
    cases fl with
    | ret u =>
      obtain ⟨v, H', I3, rv, ev, q3⟩ := I2.after hq'
      subst ev
      exact ⟨rv, ⟨V.ref (s.heap.objs.size + 1), H', I3, rfl, q3⟩⟩
    | next => exact False.elim hq'
    | brk => exact False.elim hq'
    | cont => exact False.elim hq'
theorem pe_mkS (O : OkI X.prog X.w X.K X.mg X.base k x C ps sp) (hr : Room (k + 1) X.A) (tk : L2N.Takes X W) (ha : PA X (e :: es) t) (hg : Gl X x := by rfl)
    (hdb : (x == ("__debug__" : Str)) = false := by decide) (he : starEach (e :: es) X.env = (false, eval e X.env) :: starEach es X.env := by rfl) (hpl : (backTo pos (starEach es X.env)).any (·.1) = false := by rfl) :
    PE X (.Call (.Name x p) (e :: es) [] pos) (cMake C sp W t) := by
  obtain ⟨g, f, fd, M, hb, F⟩ := O.ex
  refine ⟨fun pins s σ H Q I h => ?_⟩
  refine wpAny_Call_Name_kw (ld_glob I hg g ?_ hdb)
  refine PySem.W.callWith_K (h₀ := X.base) I.ok.mod.kin M.kp (thn (ha.run pos pins s σ H _ I h) fun us s1 ⟨vs, H1, I1, r, q⟩ => ⟨I1.kIn, ?_⟩) he hpl
  exact run_makeS M F hr hb tk I1 r q
theorem pe_mkS0 (O : OkI X.prog X.w X.K X.mg X.base k x C ps sp) (hr : Room (k + 1) X.A) (tk : L2N.Takes X W) (hg : Gl X x := by rfl)
    (hdb : (x == ("__debug__" : Str)) = false := by decide) : PE X (.Call (.Name x p) [] [] pos) (cMake C sp W tNil) := by
  obtain ⟨g, f, fd, M, hb, F⟩ := O.ex
  refine ⟨fun pins s σ H Q I h => ?_⟩
  refine wpAny_Call_Name_kw (ld_glob I hg g ?_ hdb)
  exact PySem.W.callWith_K0 I.kIn M.kp (run_makeS (us := []) M F hr hb tk I .nil h)
/-- what isinstance asks of an own class's instance -/
structure OwnC (K : PySem.W.Frag) (mg : Str → Option Value) (x : Str) (C : Addr) : Prop where
  g : mg x = some (.ref C)
  cl : Cls K C
  ha : PySem.W.findIn K (.ref C) "__class__" = some (some (.builtin "object.__class__"))
  hn : PySem.W.specialIn K (.builtin "object.__class__") "__get__" = some (some (.builtin "getset_descriptor.__get__"))
  ht : PySem.W.takesIn K (.builtin "object.__class__") = some true
  hm : PySem.W.mroIn K C (.type "object") = some true
theorem OwnC.ty {K : PySem.W.Frag} {mg : Str → Option Value} {x : Str} {C a dx : Addr} {H : Hp} {fs : List (Str × V)} (o : OwnC K mg x C) (h : H a = some (.ins C dx fs)) : TyX K H (.ref a) (.ref C) := .base (.ins h o.cl o.ha o.hn o.ht o.hm)
theorem Wf.ins {H : Hp} {a C dx : Addr} {fs gs : List (Str × V)} (w : Wf H) (h : H a = some (.ins C dx fs)) : Wf (upd H a (.ins C dx gs)) := fun b u e => by
  have hd : H dx = some (.own a) := by
    rcases w a _ h with f | ⟨C', dx', fs', e', hd⟩
    · exact f.elim
    · cases e'
      exact hd
  have nda : dx ≠ a := ne_of hd h (fun z => by cases z)
  by_cases hb : b = a
  · subst hb
    rw [upd_same] at e
    cases e
    exact .inr ⟨C, dx, gs, rfl, by rw [upd_ne nda]; exact hd⟩
  · rw [upd_ne hb] at e
    rcases w b u e with f | ⟨C', dx', fs', rfl, hd'⟩
    · exact .inl f
    · refine .inr ⟨C', dx', fs', rfl, ?_⟩
      have n : dx' ≠ a := ne_of hd' h (fun z => by cases z)
      rw [upd_ne n]
      exact hd'
/-- a new instance stands -/
theorem Wf.made {H : Hp} {x dx C : Addr} {fs : List (Str × V)} (w : Wf H) (nx : H x = none) (nd : H dx = none) (ne : dx ≠ x) : Wf (upd (upd H dx (.own x)) x (.ins C dx fs)) := fun b u e => by
  by_cases hb : b = x
  · subst hb
    rw [upd_same] at e
    cases e
    exact .inr ⟨C, dx, fs, rfl, by rw [upd_ne ne, upd_same]⟩
  · rw [upd_ne hb] at e
    by_cases hd : b = dx
    · subst hd
      rw [upd_same] at e
      cases e
      exact .inl trivial
    · rw [upd_ne hd] at e
      rcases w b u e with f | ⟨C', dx', fs', rfl, h⟩
      · exact .inl f
      · refine .inr ⟨C', dx', fs', rfl, ?_⟩
        rw [upd_ne (ne_of_none h nx), upd_ne (ne_of_none h nd)]
        exact h
end
end R
namespace R
open PySem PySem.Spec PyProof.Rows L2
theorem dpa5 {K : PySem.W.Frag} {H : Hp} {xs : List V} {ds : List PyData} (h : DpAll K H xs ds) (l : xs.length = 5) :
    ∃ x1 x2 x3 x4 x5 d1 d2 d3 d4 d5, xs = [x1, x2, x3, x4, x5] ∧ ds = [d1, d2, d3, d4, d5] ∧ Dp K H x1 d1 ∧ Dp K H x2 d2 ∧ Dp K H x3 d3 ∧ Dp K H x4 d4 ∧ Dp K H x5 d5 := by
  cases h with
  | nil => cases l
  | cons g1 h =>
    cases h with
    | nil => cases l
    | cons g2 h =>
      cases h with
      | nil => cases l
      | cons g3 h =>
        cases h with
        | nil => cases l
        | cons g4 h =>
          cases h with
          | nil => cases l
          | cons g5 h =>
            cases h with
            | nil => exact ⟨_, _, _, _, _, _, _, _, _, _, rfl, rfl, g1, g2, g3, g4, g5⟩
            | cons g6 h => simp at l
end R
namespace R
open PySem PySem.Spec PyProof.Rows L2
theorem hid_at {a b : Addr} {H : Hp} {o : HO} (n : b ≠ a) (h : H b = some o) : hid a H b = some o := by
  unfold hid
  rw [if_neg n]
  exact h
theorem exc_is {K : PySem.W.Frag} {mg : Str → Option Value} {x y : Str} {C D : Addr} {b : Bool} (e : Exc K mg x C) (s : PySem.W.subIn K (.ref C) (.ref C) = some true) (f : Exc K mg y D) (h : PySem.W.subIn K (.ref C) (.ref D) = some b) : PySem.W.kitOne K (.ref C) (.ref D) = some b :=
  exc_kit (x := x) f (fun z => by
    subst z
    rw [s] at h
    exact (Option.some.inj h).symm) h
theorem exc_ve {K : PySem.W.Frag} {mg : Str → Option Value} {x : Str} {C : Addr} (e : Exc K mg x C) : PySem.W.kitOne K (.ref C) (.type "ValueError") = some true := by
  unfold PySem.W.kitOne
  have n : ((Value.ref C) == Value.type "ValueError") = false := by simp
  rw [n]
  have m : PySem.W.kitMeta "ValueError" = true := by decide +kernel
  unfold PySem.W.kitCls
  simp only [m, if_true]
  simpa using e.v
theorem at_last {α : Type} {xs : List α} (h : xs ≠ []) : ∃ v, atI xs (-1) = some v ∧ v ∈ xs := by
  refine ⟨xs.getLast h, ?_, List.getLast_mem h⟩
  conv => lhs; rw [← List.dropLast_concat_getLast h]
  exact atI_last _ _
theorem cut_mem {xs : List V} {lo hi : Option Int} {v : V} (h : v ∈ cutV xs lo hi) : v ∈ xs := by
  unfold cutV at h
  exact List.mem_of_mem_drop (List.mem_of_mem_take h)
theorem cut_len {xs : List V} {lo hi : Option Int} : (cutV xs lo hi).length ≤ xs.length := by
  unfold cutV
  rw [List.length_take, List.length_drop]
  omega
end R
namespace R
open PySem PySem.Spec PyProof.Rows L2
theorem Dr.free {a p : Addr} {H H' : Hp} (x : Dr a H H') (n : H' p = none) : H p = none := by
  cases e : H p with
  | none => rfl
  | some o =>
    by_cases h : p = a
    · subst h
      obtain ⟨_, _, z, _⟩ := x.st
      rw [n] at z
      cases z
    · rw [x.kp p o h e] at n
      cases n
end R
namespace R
open PySem PySem.Spec PyProof.Rows L2
theorem tups_put {K : PySem.W.Frag} {H : Hp} {R : Addr} {xs : List V} {o : HO} (e : H R = some (.lst xs)) : ∀ p ys, SqT K H p ys → SqT K (upd H R o) p ys := fun p ys h => by
  rcases h with (h | ⟨z, h⟩) | h
  · exact .inl (.inl (by rw [upd_ne (ne_of h e (fun z => by cases z))]; exact h))
  · exact .inl (.inr ⟨z, by rw [upd_ne (ne_of h e (fun z => by cases z))]; exact h⟩)
  · exact .inr h
theorem same_put {H H' : Hp} {R : Addr} {o : HO} (s : Same H H') (n : H R = none) : Same H (upd H' R o) := fun b u e => by
  rw [upd_ne (ne_of_none e n)]
  exact s b u e
theorem st_put {H : Hp} {a R : Addr} {o : HO} (s : St2 H a) (n : R ≠ a) : St2 (upd H R o) a := by
  obtain ⟨p, q, e, h⟩ := s
  exact ⟨p, q, by rw [upd_ne n.symm]; exact e, h⟩
end R
namespace R
open PySem PySem.Spec PyProof.Rows L2
theorem pe_xc {X : Cx} {x : Str} {C : Addr} {pos : Pos} (e : Exc X.K X.mg x C) (hg : Gl X x := by rfl) (hd : (x == ("__debug__" : Str)) = false := by decide) : PE X (.Name x pos) (tC (.ref C)) := pe_glob hg e.g rfl hd
theorem pe_oc {X : Cx} {x : Str} {C : Addr} {pos : Pos} (e : OwnC X.K X.mg x C) (hg : Gl X x := by rfl) (hd : (x == ("__debug__" : Str)) = false := by decide) : PE X (.Name x pos) (tC (.ref C)) := pe_glob hg e.g rfl hd
theorem stL_ne {p q : Int} {xs : List V} : HO.tup xs ≠ stL p q := fun z => by cases z
theorem Dr.tups {K : PySem.W.Frag} {a : Addr} {H H' : Hp} (x : Dr a H H') (s : St2 H a) : ∀ p xs, SqT K H p xs → SqT K H' p xs := fun p xs h => by
  rcases h with (h | ⟨o, h⟩) | h
  · exact .inl (.inl (x.at h (fun _ _ => stL_ne) s))
  · refine .inl (.inr ⟨o, x.at h (fun _ _ z => by cases z) s⟩)
  · exact .inr h
theorem same_tups {K : PySem.W.Frag} {H H' : Hp} (x : Same H H') : ∀ p xs, SqT K H p xs → SqT K H' p xs := fun p xs h => sqt_keep (fun o e => x p o e) h
end R
namespace R
open PySem PySem.Spec PyProof.Rows L2
/-- two lists side by side -/
inductive Al2 {α β : Type} (P : α → β → Prop) : List α → List β → Prop where
  | nil : Al2 P [] []
  | cons {a b xs ys} : P a b → Al2 P xs ys → Al2 P (a :: xs) (b :: ys)
namespace Al2
variable {α β : Type} {P P' : α → β → Prop}
theorem len : ∀ {xs : List α} {ys : List β}, Al2 P xs ys → xs.length = ys.length
  | _, _, .nil => rfl
  | _, _, .cons _ h => by rw [List.length_cons, List.length_cons, len h]
theorem mono (f : ∀ a b, P a b → P' a b) : ∀ {xs : List α} {ys : List β}, Al2 P xs ys → Al2 P' xs ys
  | _, _, .nil => .nil
  | _, _, .cons p h => .cons (f _ _ p) (mono f h)
theorem snoc {a : α} {b : β} (p : P a b) : ∀ {xs : List α} {ys : List β}, Al2 P xs ys → Al2 P (xs ++ [a]) (ys ++ [b])
  | _, _, .nil => .cons p .nil
  | _, _, .cons q h => .cons q (snoc p h)
theorem app : ∀ {xs : List α} {ys : List β} {us : List α} {vs : List β}, Al2 P xs ys → Al2 P us vs → Al2 P (xs ++ us) (ys ++ vs)
  | _, _, _, _, .nil, g => g
  | _, _, _, _, .cons q h, g => .cons q (app h g)
theorem nth : ∀ {xs : List α} {ys : List β} {i : Nat} {a : α}, Al2 P xs ys → xs[i]? = some a → ∃ b, ys[i]? = some b ∧ P a b
  | _, _, _, _, .nil, e => by simp at e
  | _, _, 0, _, .cons p _, e => by
    simp at e
    subst e
    exact ⟨_, rfl, p⟩
  | _, _, _ + 1, _, .cons _ h, e => by
    simp at e
    obtain ⟨b, e2, p⟩ := nth h e
    exact ⟨b, by simpa using e2, p⟩
theorem mem {xs : List α} {ys : List β} {a : α} (h : Al2 P xs ys) (m : a ∈ xs) : ∃ b, b ∈ ys ∧ P a b := by
  obtain ⟨i, hi, rfl⟩ := List.getElem_of_mem m
  obtain ⟨b, e, p⟩ := h.nth (List.getElem?_eq_getElem hi)
  exact ⟨b, List.mem_of_getElem? e, p⟩
end Al2
/-- a place in a list, with what stands beside it -/
theorem Al2.at {β : Type} {P : V → β → Prop} {xs : List V} {ys : List β} {i : Int} (h : Al2 P xs ys) (h0 : 0 ≤ i) (h1 : i < xs.length) : ∃ v b, atI xs i = some v ∧ ys[i.toNat]? = some b ∧ P v b := by
  obtain ⟨j, rfl⟩ : ∃ j : Nat, i = j := ⟨i.toNat, by omega⟩
  have hj : j < xs.length := by omega
  obtain ⟨b, e, p⟩ := h.nth (List.getElem?_eq_getElem hj)
  exact ⟨xs[j], b, atI_nat (List.getElem?_eq_getElem hj), e, p⟩
end R
namespace R
theorem not_b {b : Bool} (h : (!b) = true) : b = false := by simpa using h
theorem not_b' {b : Bool} (h : (!b) = false) : b = true := by simpa using h
end R
namespace R
open PySem PySem.Spec PyProof.Rows L2
section
variable {X : Cx}
/-- in, of data of any depth -/
def rInDU (K : PySem.W.Frag) (n : Bool) : R2 := fun x y H Q => ∃ d ds, Dp K H x d ∧ (Dp K H y (.list ds) ∧ SeqAt.shaped (.list ds) = true ∨ Dp K H y (.tuple ds) ∧ SeqAt.shaped (.tuple ds) = true) ∧ SeqAt.shaped d = true ∧ Q (.bl (n != ds.any fun z => PyData.eqv z d)) H
theorem lay_tuple {ds : List PyData} (h : SeqAt.shaped (.tuple ds) = true) : PyData.canLayAll0 ds = true := by
  have := SeqAt.canLay_of_shaped h
  simpa [PyData.canLay0] using this
theorem roomU5 {k : Nat} {A : Around} (r : Room k A) : A.units + 65 < cLine := by have := r.un; omega
theorem opU_inD {K : PySem.W.Frag} {k : Nat} (r : Room k X.A) (hK : X.K = K := by rfl) : OpR X (compareOp .In) (rInDU K false) := by
  subst hK
  intro pins s σ H x y v u Q I rx ry h
  obtain ⟨d, ds, hd, he, sd, q⟩ := h
  have e : (false != ds.any fun z => PyData.eqv z d) = ds.any fun z => PyData.eqv z d := by simp
  rw [e] at q
  rcases he with ⟨he, se⟩ | ⟨he, se⟩
  · exact op_inD (roomU5 r) pins s σ H x y v u Q I rx ry ⟨d, ds, hd, he, sd, se, q⟩
  · obtain ⟨as, r1⟩ := Dp.reads I d x v hd rx
    obtain ⟨bs, r2⟩ := Dp.reads I (.tuple ds) y u he ry
    exact SeqAt.in_tuple_reads r2 r1 (lay_tuple se) (SeqAt.canLay_of_shaped sd) (room_in_shaped sd (roomU5 r)) ⟨.bl _, H, I, rfl, q⟩
theorem opU_notinD {K : PySem.W.Frag} {k : Nat} (r : Room k X.A) (hK : X.K = K := by rfl) : OpR X (compareOp .NotIn) (rInDU K true) := by
  subst hK
  intro pins s σ H x y v u Q I rx ry h
  obtain ⟨d, ds, hd, he, sd, q⟩ := h
  have e : (true != ds.any fun z => PyData.eqv z d) = !ds.any fun z => PyData.eqv z d := by simp
  rw [e] at q
  rcases he with ⟨he, se⟩ | ⟨he, se⟩
  · exact op_notInD (roomU5 r) pins s σ H x y v u Q I rx ry ⟨d, ds, hd, he, sd, se, q⟩
  · obtain ⟨as, r1⟩ := Dp.reads I d x v hd rx
    obtain ⟨bs, r2⟩ := Dp.reads I (.tuple ds) y u he ry
    exact SeqAt.notIn_tuple_reads r2 r1 (lay_tuple se) (SeqAt.canLay_of_shaped sd) (room_in_shaped sd (roomU5 r)) ⟨.bl _, H, I, rfl, q⟩
/-- text * number -/
def rMulS : R2 := fun x y H Q => match x, y with
  | .str z, .int n => MulOk z n ∧ Q (.str (Txt.mul z n)) H
  | _, _ => False
theorem opU_mulS : OpR X (binaryOp .Mult) rMulS := by
  intro pins s σ H x y v u Q I rx ry h
  unfold rMulS at h
  split at h
  · obtain ⟨t, rfl⟩ := rx
    obtain ⟨t', rfl⟩ := ry
    rename_i z n
    exact SB.mul h.1 fun t' k => ⟨.str (Txt.mul z n), H, I.tok _, ⟨_, rfl⟩, h.2⟩
  · exact h.elim
/-- t + u, t[i:j] of tuples, of any kind -/
def rAddA (K : PySem.W.Frag) : R2 := fun x y H Q => ∃ a b xs ys, x = .ref a ∧ y = .ref b ∧ SqT K H a xs ∧ SqT K H b ys ∧ xs.length + ys.length ≤ sizeLine ∧ ∀ p H', SqT K H' p (xs ++ ys) → Same H H' → (Wf H → Wf H') → Q (.ref p) H'
theorem opA_add {K : PySem.W.Frag} (hK : X.K = K := by rfl) : OpR X (binaryOp .Add) (rAddA K) := hK ▸ imp_o op_catA fun x y H Q q => by
  obtain ⟨a, b, xs, ys, rfl, rfl, ha, hb, hz, q⟩ := q
  refine ⟨a, b, xs, ys, rfl, rfl, ha, hb, hz, fun e => ?_, fun _ e => ?_, fun _ _ p np => ?_⟩
  · subst e
    exact q b H hb (Same.refl _) id
  · subst e
    refine q a H ?_ (Same.refl _) id
    rw [List.append_nil]
    exact ha
  · exact q p _ (.inl (.inl upd_same)) (same_new np) fun w => w.new trivial np
def rSlAU (K : PySem.W.Frag) : V → Option Int → Option Int → Hp → VK → Prop := fun x lo hi H Q => ∃ a xs, x = .ref a ∧ SqT K H a xs ∧ ∀ p H', SqT K H' p (cutV xs lo hi) → Same H H' → (Wf H → Wf H') → Q (.ref p) H'
theorem cutV_whole {xs : List V} {lo hi : Option Int} (h : HT.sIx xs.length 0 lo = 0 ∧ HT.sIx xs.length xs.length hi = xs.length) : cutV xs lo hi = xs := by
  unfold cutV
  rw [h.1, h.2, List.drop_zero, Nat.sub_zero, List.take_of_length_le (Nat.le_refl _)]
theorem slA {K : PySem.W.Frag} (hK : X.K = K := by rfl) : SlR X (rSlAU K) := by
  subst hK
  intro pins s σ H x v vl vu lo hi sl Q I rx hs pl pu h
  obtain ⟨a, xs, rfl, hx, q⟩ := h
  refine sl_tupA pins s σ H _ v vl vu lo hi sl Q I rx hs pl pu ⟨a, xs, rfl, hx, fun e => ?_, fun _ p np => ?_⟩
  · exact q a H (by rw [cutV_whole e]; exact hx) (Same.refl _) id
  · exact q p _ (.inl (.inl upd_same)) (same_new np) fun w => w.new trivial np
theorem pe_revK {K : PySem.W.Frag} {e : Expr} {te : TE} {k : Nat} {p1 p2 p3 pos : Pos} (he : PE X e te) (hK : X.K = K := by rfl) : PE X (.Subscript e (.Slice none none (some (.UnaryOp .USub (.Constant (.int 1) k p1) p2)) p3) pos) (tRevL K te) := hK ▸ pe_revL he
end
end R
namespace R
open PySem PySem.Spec PyProof.Rows L2
theorem ty_same {K : PySem.W.Frag} {H H' : Hp} {x : V} {t : Value} (s : Same H H') (h : TyX K H x t) : TyX K H' x t := by
  cases h with
  | base h =>
    cases h with
    | non => exact .base .non
    | bl b => exact .base (.bl b)
    | int i => exact .base (.int i)
    | str z => exact .base (.str z)
    | flt z => exact .base (.flt z)
    | lst e => exact .base (.lst (s _ _ e))
    | frz e => exact .base (.frz (s _ _ e))
    | tup e => exact .base (.tup (s _ _ e))
    | dK e => exact .base (.dK (s _ _ e))
    | dT e => exact .base (.dT (s _ _ e))
    | ins e cl ha hn htk hm => exact .base (.ins (s _ _ e) cl ha hn htk hm)
  | byt b => exact .byt b
  | set e => exact .set (s _ _ e)
  | kList e c => exact .kList e c
  | kTuple e c => exact .kTuple e c
  | kDict e c => exact .kDict e c
  | fTuple e => exact .fTuple (s _ _ e)
  | fDict e => exact .fDict (s _ _ e)
theorem isi_same {K : PySem.W.Frag} {H H' : Hp} {x : V} {n : String} {b : Bool} (s : Same H H') (h : IsiV K H x n b) : IsiV K H' x n b := by
  obtain ⟨t, h1, h2⟩ := h
  exact ⟨t, ty_same s h1, h2⟩
theorem kn_same {K : PySem.W.Frag} {H H' : Hp} {v : V} (s : Same H H') (h : Kn K H v) : Kn K H' v := by
  cases v with
  | non => trivial
  | bl _ => trivial
  | int _ => trivial
  | str _ => trivial
  | ref p =>
    rcases h with h | h | h
    · exact .inl (ty_same s h)
    · exact .inr (.inl (ty_same s h))
    · exact .inr (.inr (ty_same s h))
  | byt _ => exact h.elim
  | flt _ => exact h.elim
  | ty _ => exact h.elim
theorem cutS_len {z : Str} {lo hi : Option Int} : (cutS z lo hi).length ≤ z.length := by
  unfold cutS
  have e : z.length = z.cps.toList.length := (Array.length_toList).symm
  rw [e]
  show (Array.size _) ≤ _
  simp
  omega
/-- the signs of some words, one more for each -/
def mu (ws : List Str) : Nat := (ws.map fun w => w.length + 1).sum
theorem mu_nil : mu [] = 0 := rfl
theorem mu_cons (w : Str) (ws : List Str) : mu (w :: ws) = w.length + 1 + mu ws := rfl
theorem mu_app (ws us : List Str) : mu (ws ++ us) = mu ws + mu us := by
  induction ws with
  | nil => simp [mu_nil]
  | cons w r ih =>
    rw [List.cons_append, mu_cons, mu_cons, ih]
    omega
theorem mu_take (ws : List Str) (n : Nat) : mu (ws.take n) ≤ mu ws := by
  conv => rhs; rw [← List.take_append_drop n ws, mu_app]
  omega
theorem mu_drop (ws : List Str) (n : Nat) : mu (ws.drop n) ≤ mu ws := by
  conv => rhs; rw [← List.take_append_drop n ws, mu_app]
  omega
theorem mu_rev (ws : List Str) : mu ws.reverse = mu ws := by
  induction ws with
  | nil => rfl
  | cons w r ih =>
    rw [List.reverse_cons, mu_app, ih, mu_cons, mu_cons, mu_nil]
    omega
theorem mu_len (ws : List Str) : ws.length ≤ mu ws := by
  induction ws with
  | nil => exact Nat.zero_le _
  | cons w r ih =>
    rw [List.length_cons, mu_cons]
    omega
theorem mu_mem {ws : List Str} {w : Str} (h : w ∈ ws) : w.length + 1 ≤ mu ws := by
  induction ws with
  | nil => cases h
  | cons x r ih =>
    rw [mu_cons]
    rcases List.mem_cons.mp h with rfl | h
    · omega
    · have := ih h
      omega
theorem cut_strs (ws : List Str) (lo hi : Option Int) : ∃ us : List Str, cutV (ws.map V.str) lo hi = us.map V.str ∧ mu us ≤ mu ws ∧ ∀ w ∈ us, w ∈ ws := by
  refine ⟨(ws.drop (HT.sIx (ws.map V.str).length 0 lo)).take (HT.sIx (ws.map V.str).length (ws.map V.str).length hi - HT.sIx (ws.map V.str).length 0 lo), ?_, ?_, ?_⟩
  · unfold cutV
    rw [← List.map_drop, ← List.map_take]
  · exact Nat.le_trans (mu_take _ _) (mu_drop _ _)
  · intro w hw
    exact List.mem_of_mem_drop (List.mem_of_mem_take hw)
theorem mu_sum (ws : List Str) : mu ws = (ws.map (·.length)).sum + ws.length := by
  induction ws with
  | nil => rfl
  | cons w r ih =>
    rw [mu_cons, ih, List.map_cons, List.sum_cons, List.length_cons]
    omega
theorem Dr.same' {a : Addr} {H H' : Hp} (s : Same H H') (t : St2 H a) (w : Wf H') : Dr a H H' := by
  obtain ⟨p, q, e, h⟩ := t
  exact ⟨fun b o _ e => s b o e, ⟨p, q, s _ _ e, h⟩, w⟩
end R
namespace R
open PySem PySem.Spec PyProof.Rows L2
theorem opT_mul {X : Cx} {K : PySem.W.Frag} (hK : X.K = K := by rfl) : OpR X (binaryOp .Mult) (rRepT K) := hK ▸ op_repT
/-- the heap without what stands at F and at a -/
def G2 (F a : Addr) (H : Hp) : Hp := hid F (hid a H)
theorem G2.le {F a : Addr} {H : Hp} : Same (G2 F a H) H := fun b o e => by
  unfold G2 hid at e
  split at e
  · cases e
  · split at e
    · cases e
    · exact e
theorem G2.at {F a b : Addr} {H : Hp} {o : HO} (n : b ≠ F) (m : b ≠ a) (e : H b = some o) : G2 F a H b = some o := by
  unfold G2 hid
  rw [if_neg n, if_neg m]
  exact e
theorem G2.of {F a b : Addr} {H : Hp} {o : HO} (e : G2 F a H b = some o) : b ≠ F ∧ b ≠ a ∧ H b = some o := by
  unfold G2 hid at e
  split at e
  · cases e
  · rename_i n
    split at e
    · cases e
    · rename_i m
      exact ⟨n, m, e⟩
theorem G2.same {F a : Addr} {H H' : Hp} (s : Same H H') : Same (G2 F a H) (G2 F a H') := fun b o e => by
  obtain ⟨n, m, e⟩ := G2.of e
  exact G2.at n m (s _ _ e)
theorem G2.dr {F a : Addr} {H H' : Hp} (d : Dr a H H') : Same (G2 F a H) (G2 F a H') := fun b o e => by
  obtain ⟨n, m, e⟩ := G2.of e
  exact G2.at n m (d.kp _ _ m e)
theorem G2.put {F a : Addr} {H : Hp} {o : HO} : Same (G2 F a H) (G2 F a (upd H F o)) := fun b u e => by
  obtain ⟨n, m, e⟩ := G2.of e
  exact G2.at n m (by rw [upd_ne n]; exact e)
theorem G2.sqt {K : PySem.W.Frag} {F a : Addr} {H : Hp} {xs : List V} (hF : H F = some (.lst xs)) (s : St2 H a) : ∀ p ys, SqT K H p ys → SqT K (G2 F a H) p ys := fun p ys h => by
  obtain ⟨u, w, ha, _⟩ := s
  rcases h with (h | ⟨z, h⟩) | h
  · exact .inl (.inl (G2.at (ne_of h hF (fun z => by cases z)) (ne_of h ha (fun z => by cases z)) h))
  · exact .inl (.inr ⟨z, G2.at (ne_of h hF (fun z => by cases z)) (ne_of h ha (fun z => by cases z)) h⟩)
  · exact .inr h
theorem dpa_app {K : PySem.W.Frag} {H : Hp} : ∀ {xs : List V} {ds : List PyData} {ys : List V} {es : List PyData}, DpAll K H xs ds → DpAll K H ys es → DpAll K H (xs ++ ys) (ds ++ es)
  | _, _, _, _, .nil, g => g
  | _, _, _, _, .cons h r, g => .cons h (dpa_app r g)
theorem dpa_take {K : PySem.W.Frag} {H : Hp} : ∀ (n : Nat) {xs : List V} {ds : List PyData}, DpAll K H xs ds → DpAll K H (xs.take n) (ds.take n)
  | 0, _, _, _ => by
    rw [List.take_zero, List.take_zero]
    exact .nil
  | _ + 1, _, _, .nil => .nil
  | n + 1, _, _, .cons h r => .cons h (dpa_take n r)
theorem cut_ints (ws : List Int) (lo hi : Option Int) : ∃ us : List Int, cutV (ws.map V.int) lo hi = us.map V.int ∧ us.length ≤ ws.length := by
  refine ⟨(ws.drop (HT.sIx (ws.map V.int).length 0 lo)).take (HT.sIx (ws.map V.int).length (ws.map V.int).length hi - HT.sIx (ws.map V.int).length 0 lo), ?_, ?_⟩
  · unfold cutV
    rw [← List.map_drop, ← List.map_take]
  · rw [List.length_take, List.length_drop]
    omega
theorem cutV_to {xs : List V} {j : Int} (h : 0 ≤ j) : cutV xs none (some j) = xs.take j.toNat := by
  obtain ⟨n, rfl⟩ : ∃ n : Nat, j = n := ⟨j.toNat, by omega⟩
  unfold cutV
  rw [HT.sIx_nat, HT.sIx_none, List.drop_zero, Nat.sub_zero, Int.toNat_natCast]
  by_cases h : n ≤ xs.length
  · rw [Nat.min_eq_left h]
  · rw [Nat.min_eq_right (by omega), List.take_of_length_le (Nat.le_refl _), List.take_of_length_le (by omega)]
end R
namespace R
open PySem PySem.Spec PyProof.Rows L2
theorem roomU1 {k : Nat} {A : Around} (r : Room k A) : A.units + 1 < cLine := by have := r.un; omega
theorem mono_pc {X : Cx} {op : CmpOp} {a b : Expr} {t : TE} (h : PC X op a b t) : PC X op a b (fun σ H Q => ∃ Q0 : VK, (∀ v H', Q0 v H' → Q v H') ∧ t σ H Q0) := ⟨fun pins s σ H Q I q => by
  obtain ⟨Q0, w, z⟩ := q
  exact thn (h.run pins s σ H Q0 I z) fun v s1 x => thn x fun u s2 y => thn y fun r s3 ⟨v, H1, I1, r, q1⟩ => ⟨v, H1, I1, r, w v H1 q1⟩⟩
theorem pt_pcU {X : Cx} {op : CmpOp} {a b : Expr} {t : TE} {pos : Pos} (h : PC X op a b t) (h1 : behindInMarks op b = false) : PT X (.Compare a [op] [b] pos) (cTest t) :=
  imp_t (pt_cmp (mono_pc h) h1) fun σ H Q q => ⟨_, fun v H' z => testM v H' z, q⟩
/-- whole numbers kept by whole numbers -/
def kvI (es : List (Int × Int)) : List (Key × V) := es.map fun p => (Sum.inl p.1, V.int p.2)
def valI (es : List (Int × Int)) (k : Int) : Option Int := (es.find? fun p => decide (p.1 = k)).map (·.2)
def putI (es : List (Int × Int)) (k v : Int) : List (Int × Int) := if (es.any fun p => decide (p.1 = k)) = true then es.map (fun p => if p.1 = k then (p.1, v) else p) else es ++ [(k, v)]
def dropI (es : List (Int × Int)) (k : Int) : List (Int × Int) := es.filter fun p => decide (p.1 ≠ k)
theorem inl_dec (a k : Int) : decide ((Sum.inl a : Key) = Sum.inl k) = decide (a = k) := by
  by_cases h : a = k
  · subst h
    rw [decide_eq_true rfl, decide_eq_true rfl]
  · rw [decide_eq_false h, decide_eq_false (fun z => h (Sum.inl.inj z))]
theorem kvI_val (es : List (Int × Int)) (k : Int) : valV (kvI es) (Sum.inl k) = (valI es k).map V.int := by
  unfold valV kvI valI
  rw [List.find?_map]
  have : ((fun kv : Key × V => decide (kv.1 = Sum.inl k)) ∘ fun p : Int × Int => ((Sum.inl p.1 : Key), V.int p.2)) = fun p => decide (p.1 = k) := by
    funext p
    exact inl_dec _ _
  rw [this]
  cases es.find? fun p => decide (p.1 = k) <;> rfl
theorem kvI_put (es : List (Int × Int)) (k v : Int) : putK (kvI es) (Sum.inl k) (.int v) = kvI (putI es k v) := by
  unfold putK putI
  have e1 : ((kvI es).any fun kv => decide (kv.1 = Sum.inl k)) = es.any fun p => decide (p.1 = k) := by
    unfold kvI
    rw [List.any_map]
    congr 1
    funext p
    exact inl_dec _ _
  rw [e1]
  split
  · unfold kvI
    rw [List.map_map, List.map_map]
    apply List.map_congr_left
    intro p _
    show (if (Sum.inl p.1 : Key) = Sum.inl k then _ else _) = _
    by_cases h : p.1 = k
    · rw [if_pos (by rw [h])]
      show _ = ((fun p : Int × Int => ((Sum.inl p.1 : Key), V.int p.2)) (if p.1 = k then (p.1, v) else p))
      rw [if_pos h]
    · rw [if_neg (fun z => h (Sum.inl.inj z))]
      show _ = ((fun p : Int × Int => ((Sum.inl p.1 : Key), V.int p.2)) (if p.1 = k then (p.1, v) else p))
      rw [if_neg h]
  · unfold kvI
    rw [List.map_append]
    rfl
theorem kvI_drop (es : List (Int × Int)) (k : Int) : dropK (kvI es) (Sum.inl k) = kvI (dropI es k) := by
  unfold dropK dropI kvI
  rw [List.filter_map]
  congr 1
  apply List.filter_congr
  intro p _
  have e := inl_dec p.1 k
  simp only [Function.comp, ne_eq, decide_not]
  rw [e]
theorem kvI_len (es : List (Int × Int)) : (kvI es).length = es.length := List.length_map ..
end R
namespace R
open PySem PySem.Spec PyProof.Rows L2
/-- all stays but what is at x -/
def KX (x : Addr) (H H' : Hp) : Prop := ∀ b o, b ≠ x → H b = some o → H' b = some o
theorem kx_new {x p : Addr} {o : HO} {H H' : Hp} (n : H' p = none) (k : KX x H H') : KX x H (upd H' p o) := fun b u h e => same_new n _ _ (k b u h e)
theorem kx_put {x : Addr} {o : HO} {H H' : Hp} (k : KX x H H') : KX x H (upd H' x o) := fun b u h e => by
  rw [upd_ne h]
  exact k b u h e
theorem bQ.ins {H : Hp} {Q : VK} {v : V} (w : Wf H) (q : Q v H) : bQ H Q v H := bQ.same w (Same.refl _) q
end R
namespace R
open PySem PySem.Spec PyProof.Rows L2
section
variable {X : Cx} {e : Expr} {te : TE} {p apos cpos pos : Pos}
/-- list(e.values()) -/
def tListVals (te : TE) : TE := fun σ H Q => te σ H fun x H1 => ∃ d kvs, x = .ref d ∧ H1 d = some (.dK kvs) ∧ ∀ p, H1 p = none → Q (.ref p) (upd H1 p (.lst (kvs.map (·.2))))
theorem pe_listVals (hc : X.calm = true) (he : PE X e te) (hg : Gl X "list") (hm : X.mg "list" = none) (hv : bootBuiltins "list" = some (.type "list")) (hbase : attributeBase e "values" X.env (eval e X.env) = eval e X.env := by rfl) (hline : (apos.endLine == cpos.line) = true := by rfl)
    (hs : starEach [.Call (.Attribute e "values" apos) [] [] cpos] X.env = (false, eval (.Call (.Attribute e "values" apos) [] [] cpos) X.env) :: starEach [] X.env := by rfl) :
    PE X (.Call (.Name "list" p) [.Call (.Attribute e "values" apos) [] [] cpos] [] pos) (tListVals te) := by
  refine ⟨fun pins s σ H Q I hq => ?_⟩
  refine wpAny_Call_Name_kw (ld_blt I hg hm hv ?_)
  refine PyProof.Rows.callWith_type1 ?_ hs rfl
  rw [hs]
  show wpAny _ _ (spliced ((false, eval (.Call (.Attribute e "values" apos) [] [] cpos) X.env) :: backTo pos (starEach [] X.env))) _ _ s
  refine Calls.spliced_cons ?_
  refine wpAny_Call_method (T := "dict") (id := "dict.values") hbase rfl hline F.plainAttrs_dict F.slot_dict_values F.type_dict_values (thn (he.run pins s σ H _ I hq) fun u s1 ⟨x, H1, I1, rx, d, kvs, ex, hd, q⟩ => ?_)
  subst ex
  obtain rfl : u = Value.ref d := rx
  obtain ⟨hz, hs0, vs, kv, hdo⟩ := I1.hok d _ hd
  obtain ⟨ep, hat⟩ := hdo.dictAt
  have lk : kvs.length = vs.length := Paired.length kv
  have I2 : Inv X pins σ H1 { s1 with heap := s1.heap.push { cls := .type "dict_values", data := .fields #[.ref d] } } := I1.kept (t' := s1.toks) fun b ob q => Heap.get?_push_of_some _ q
  refine ⟨hdo.typeIs, hdo.mapOf.noDict, ?_⟩
  show wpAny _ _ (callWith cpos (.builtin "dict.values") [.ref d] [] []) _ X.xe s1
  refine method_meetsIn F.slot_dict_values F.entry_dict_values rfl (PySem.evalArgs_none ⟨rfl, hdo.typeIs, F.args_dict_values_1 _, _, meets_dict_values (mixKind X.prog X.w) d hs0, ⟨vs, hdo⟩, ?_⟩)
  refine Calls.spliced_nil ?_
  refine PySem.W.kdl_call (PySem.W.kdl_values (knd := mixKind X.prog X.w) (kvs := vs) (ep := ep)) (I1.ok.hd hc) ⟨⟨_, Heap.get?_push_size _ rfl, rfl, rfl⟩, hat.push _⟩ (by omega) fun h' tk acc' c' hk hS hacc => ?_
  refine ⟨.ref _, upd H1 _ (.lst (kvs.map (·.2))), I2.laid (t' := tk) hk (Nat.le_refl _) (show ObjOk X.prog X.w _ _ _ (.lst (kvs.map (·.2))) from ⟨?_, acc'.toList, c', ?_, ?_⟩), rfl, q _ (I2.hok.fresh (Nat.le_refl _))⟩
  · rw [List.length_map]; exact hz
  · have el : acc'.toList.length = acc'.size := by simp
    refine vals_of_at (by rw [List.length_map, el, hacc.1, lk]) fun j x w h1 h2 => ?_
    obtain ⟨k, hky⟩ := hacc.2 j w (by rw [← Array.getElem?_toList]; exact h2)
    obtain ⟨y, hy, r⟩ := KV.at' kv hky
    rw [List.getElem?_map, hy] at h1
    cases h1
    exact r
  · rw [Array.toArray_toList]; exact hS
/-- sorted(e.values()), whole numbers -/
def tSortedVals (te : TE) : TE := fun σ H Q => te σ H fun x H1 => ∃ d kvs is, x = .ref d ∧ H1 d = some (.dK kvs) ∧ kvs.map (·.2) = is.map V.int ∧ ∀ (ns : List Int) p, ns.Perm is → ns.Pairwise (· ≤ ·) → H1 p = none → Q (.ref p) (upd H1 p (.lst (ns.map V.int)))
theorem pe_sortedVals (hc : X.calm = true) (he : PE X e te) (hg : Gl X "sorted") (hm : X.mg "sorted" = none) (hbase : attributeBase e "values" X.env (eval e X.env) = eval e X.env := by rfl) (hline : (apos.endLine == cpos.line) = true := by rfl)
    (hse : starEach [Expr.Call (.Attribute e "values" apos) [] [] cpos] X.env = [(false, eval (Expr.Call (.Attribute e "values" apos) [] [] cpos) X.env)] := by rfl) :
    PE X (.Call (.Name "sorted" p) [.Call (.Attribute e "values" apos) [] [] cpos] [] pos) (tSortedVals te) := by
  refine ⟨fun pins s σ H Q I h => ?_⟩
  refine wpAny_Call_Name_kw (ld_blt I hg hm (u := .builtin "sorted") (by first | rfl | decide +kernel) ?_ (by first | decide +kernel | decide) (by first | decide +kernel | decide))
  rw [hse]
  refine PySem.callWith_builtin1 (wpAny_Call_method0_late hbase hline (thn (he.run pins s σ H _ I h) fun v s1 ⟨x, H1, I1, r1, a, kvs, is, ex, ha, hv, q⟩ => ?_))
  subst ex
  obtain rfl : v = Value.ref a := r1
  obtain ⟨hz, hsys, vs, rel, dof⟩ := dk_of I1.hok ha
  obtain ⟨ep, dat⟩ := dof.dictAt
  have dat' := dat
  obtain ⟨ob, es, ho, ex, hdat, hko, hpr, hnd⟩ := dat'
  refine ⟨"dict", "dict.values", F.plainAttrs_dict, F.slot_dict_values, F.type_dict_values, ⟨ob, ho, ex.1⟩, fun b e => ?_, Calls.callWith_builtin rfl (PySem.evalArgs_none ?_)⟩
  · cases e
    exact ⟨ob, ho, ex.2.1⟩
  refine call_meetsIn F.slot_dict_values ⟨ob, ho, ex.1⟩ F.entry_dict_values (F.args_dict_values_1 _) (meets_dict_values (mixKind X.prog X.w) a hsys) ⟨⟨vs, dof⟩, ?_⟩
  have k1 : ∀ b u, s1.heap.get? b = some u → (s1.heap.push { cls := .type "dict_values", data := .fields #[.ref a] }).get? b = some u := fun b u e => Heap.get?_push_of_some _ e
  have dat1 : (s1.heap.push { cls := .type "dict_values", data := .fields #[.ref a] }).DictAt (mixKind X.prog X.w) a vs ep := dat.keep k1
  have I2 : Inv X pins σ H1 { s1 with heap := s1.heap.push { cls := .type "dict_values", data := .fields #[.ref a] } } := I1.kept (t' := s1.toks) k1
  have lk : kvs.length = vs.length := Paired.length rel
  refine Calls.call_function_entry PyProof.Rows.kind_sorted PyProof.Rows.plain_sorted PyProof.Rows.entry_sorted (PyProof.Rows.args_sorted1 _) ?_
  unfold Builtin.«sorted»
  refine wpAny_bind (m := checkCount "sorted" 1 1 _) (wpAny_pure ?_)
  refine wpAny_bind (PySem.W.kdu_collect (A := X.A.in1) (PySem.W.kdl_values (knd := mixKind X.prog X.w) (kvs := vs) (ep := ep)) (I1.ok.hd hc) ⟨⟨_, Heap.get?_push_size _ rfl, rfl, rfl⟩, dat1⟩ (by omega) fun h' tk acc hk hacc => ?_)
  have lacc : acc.toList.length = kvs.length := by rw [Array.length_toList, lk]; exact hacc.1
  have hn : acc.toList.length ≤ sizeLine := by rw [lacc]; exact hz
  refine wpAny_bind (wpAny_newList ?_ hn)
  have rv : Vals (is.map V.int) acc.toList := by
    rw [← hv]
    refine vals_of_at (by rw [List.length_map, lacc]) fun j x w h1 h2 => ?_
    obtain ⟨k, hky⟩ := hacc.2 j w (by rw [← Array.getElem?_toList]; exact h2)
    obtain ⟨y, hy, r⟩ := KV.at' rel hky
    rw [List.getElem?_map, hy] at h1
    cases h1
    exact r
  have hi := rv.ints
  have hoL : (h'.push (seqObj "list" acc.toList.toArray 0)).get? h'.objs.size = some (seqObj "list" acc.toList.toArray 0) := Heap.get?_push_size _ rfl
  refine wpAny_bind (wpAny_holding (wpAny_call_entry PyProof.Rows.slot_list_sort ⟨_, hoL, rfl⟩ PyProof.Rows.entry_list_sort (SrtO.list_sort_ord SrtO.swo_int hoL hn (fun h2 => SrtO.ints_sortable hi h2) fun out h1 h2 => ⟨_, rfl, ?_⟩) (PyProof.Rows.args_list_sort _)))
  refine wpAny_pure ⟨_, rfl, ?_⟩
  obtain ⟨q1, q2, q3⟩ := SrtO.ints_out hi h1 h2
  obtain ⟨ep2, he'⟩ := PyProof.Rows.sortedHeap_at (vs := acc.toList) (out := out.toArray) hoL
  have hlen : ((out.map SrtO.iv).map V.int).length ≤ sizeLine := by
    rw [List.length_map, q2.length_eq, ← List.length_map (f := V.int), ← hv, List.length_map]
    exact hz
  have hsz : (s1.heap.push { cls := .type "dict_values", data := .fields #[.ref a] }).objs.size ≤ h'.objs.size := by
    have := Heap.lt_size (hk s1.heap.objs.size _ (Heap.get?_push_size _ rfl))
    rw [size_push']
    exact this
  refine ⟨.ref _, upd H1 h'.objs.size (.lst ((out.map SrtO.iv).map V.int)), I2.laid (t' := tk) (fun b u e => ?_) hsz ⟨hlen, out, ep2, vals_of_ints q1, he'⟩, rfl, q _ _ q2 q3 (I2.hok.fresh hsz)⟩
  have e2 := hk b u e
  rw [PyProof.Rows.sortedHeap_old (Nat.ne_of_lt (Heap.lt_size e2)) (by rw [size_push']; exact Nat.lt_succ_of_lt (Heap.lt_size e2))]
  exact Heap.get?_push_of_some _ e2
end
end R
namespace R
open PySem PySem.Spec PyProof.Rows L2
section
variable {X : Cx} {pins : List (Addr × Obj)} {σ : L2.St} {H : Hp} {s : Shared}
theorem each_rel : ∀ {xs : List V} {us : List Value}, Vals xs us → PySem.W.EachIs (fun u x => RelV x u) us xs
  | _, _, .nil => .nil
  | _, _, .cons h r => .cons h (each_rel r)
theorem vals_each : ∀ {us : List Value} {xs : List V}, PySem.W.EachIs (fun u x => RelV x u) us xs → Vals xs us
  | _, _, .nil => .nil
  | _, _, .cons h r => .cons h (vals_each r)
theorem each_reads (I : Inv X pins σ H s) (enc : V → PyData) : ∀ {xs : List V} {us : List Value}, Vals xs us → (∀ x ∈ xs, Dp X.K H x (enc x)) → PySem.W.EachIs (fun u x => ∃ as, Reads s.heap u (enc x) as) us xs
  | _, _, .nil, _ => .nil
  | _, _, .cons h r, hd => .cons (Dp.reads I _ _ _ (hd _ List.mem_cons_self) h) (each_reads I enc r fun x m => hd x (List.mem_cons_of_mem _ m))
/-- sorted(xs) of data of one shape -/
def rSortD (K : PySem.W.Frag) : List V → Hp → VK → Prop := fun vs H Q => ∃ (a : Addr) (xs : List V) (enc : V → PyData), vs = [V.ref a] ∧ SqL K H a xs ∧ (∀ x ∈ xs, Dp K H x (enc x)) ∧ PySem.W.AllAlike (xs.map enc) ∧ PySem.W.Sortable (xs.map enc) ∧ (∀ x ∈ xs, (enc x).depth ≤ 32) ∧ ∀ p, H p = none → Q (.ref p) (upd H p (.lst (xs.mergeSort (PySem.W.dataLe false enc))))
theorem cr_sortD {K : PySem.W.Frag} {k : Nat} (hr : Room k X.A) (hK : X.K = K := by rfl) : CallR X (.builtin "sorted") (rSortD K) := by
  subst hK
  intro pins s σ H vs us Q I r h
  obtain ⟨a, xs, enc, rfl, hs, hd, hal, hso, hdp, q⟩ := h
  obtain ⟨its, rv, hl, hz⟩ := I.list hs
  rw [Vals.ref1 r]
  have un := hr.un
  refine PySem.W.sorted_data (R := fun u x => RelV x u) (enc := enc) hl.isList (each_rel rv) (each_reads I enc rv hd) hal hso hz (fun b hb => ?_) fun out ho he => ?_
  · have := hdp b hb
    omega
  · obtain ⟨ep, he'⟩ := PyProof.Rows.sortedAll_at s.heap its out.toArray
    have hlen : (xs.mergeSort (PySem.W.dataLe false enc)).length ≤ sizeLine := by
      rw [List.length_mergeSort]
      exact hz
    exact ⟨.ref _, upd H (s.heap.objs.size + 1) (.lst (xs.mergeSort (PySem.W.dataLe false enc))), I.laid (t' := s.toks) (fun _ _ => PyProof.Rows.sortedAll_old) (Nat.le_succ _) ⟨hlen, out, ep, vals_each he, he'⟩, rfl, q _ (I.hok.fresh (Nat.le_succ _))⟩
/-- f may be asked for a key -/
def KeyFn (X : Cx) (f : Addr) (spk : V → Hp → VK → Prop) : Prop := ∀ (pins : List (Addr × Obj)) (σ : L2.St) (H : Hp) (s : Shared) (x : V) (u : Value) (Q : VK), Inv X pins σ H s → RelV x u → spk x H Q → wpAny (model X.prog X.w) X.A.in1.in1 (call (.ref f) [u]) (EP X pins σ Q) (fun _ _ => False) s
theorem env0_in2 {P : Program} {w : World} {K : PySem.W.Frag} {mg : Str → Option Value} {base : Heap} {A : Around} {outer : List Env} {s : Shared} {H : Hp} (e : Env0 P w K mg base A outer s H) : Env0 P w K mg base A.in1.in1 outer s H := ⟨e.frames, e.mod, e.bs, e.bsz, e.funs, e.frf, e.hok, e.bare⟩
/-- a def within the def, that captures nothing -/
theorem key_nk {k : Nat} {F : NdefX.NF} {ps : List Str} {sp : List (Option V) → Sp} {f : Addr} (Fn : NdefX.NOkK X.prog X.w X.K X.mg X.base (L2N.CX X.prog X.w) k f F ps [] sp) (hr : Room (k + 2) X.A) (cp : X.Ok → NdefX.Caps X F.cl [] []) :
    KeyFn X f fun x H Q => H f = some (NdefX.FnO f F) ∧ sp [] [x] H Q E0 := by
  intro pins σ H s x u Q I rx h
  obtain ⟨hf, q⟩ := h
  have C := NdefX.cells_of I (cp I.ok)
  refine wpAny_call (codeAny_mono (Fn.run X.A.in1.in1 X.stack s H [u] [x] _ Q E0 hr.in1.in1 (env0_in2 I.env0) hf C (.cons rx .nil) q) fun r s' hq => ?_)
  cases r with
  | error e =>
    obtain ⟨_, _, _, _, _, _, _, _, _, _, _, _, z⟩ := hq
    exact z.elim
  | ok fl =>
    cases fl with
    | ret u => exact I.after hq
    | next => exact False.elim hq
    | brk => exact False.elim hq
    | cont => exact False.elim hq
def extL (a : Addr) (xs : Array Value) (n : Nat) : HO := .ext fun h => h.get? a = some (seqObj "list" xs n)
theorem extL_ok {P : Program} {w : World} {H : Hp} {h : Heap} {a : Addr} {xs : Array Value} {n : Nat} (e : h.get? a = some (seqObj "list" xs n)) : ObjOk P w H h a (extL a xs n) := ⟨e, ⟨_, e⟩, fun _ _ z k => k _ z⟩
theorem extL_at {P : Program} {w : World} {H : Hp} {h : Heap} {a : Addr} {xs : Array Value} {n : Nat} (ok : HOk P w H h) (e : H a = some (extL a xs n)) : h.get? a = some (seqObj "list" xs n) := by
  obtain ⟨z, _, _⟩ := ok a _ e
  exact z
theorem wf_del {H : Hp} {a : Addr} {φ : Heap → Prop} (w : Wf H) (e : H a = some (.ext φ)) : Wf (delH H a) := fun b o h => by
  unfold delH at h ⊢
  split at h
  · cases h
  · rcases w b o h with f | ⟨C, dx, fs, rfl, hd⟩
    · exact .inl f
    · refine .inr ⟨C, dx, fs, rfl, ?_⟩
      rw [if_neg (fun z => by rw [z, e] at hd; cases hd)]
      exact hd
mutual
theorem dp_seq {K : PySem.W.Frag} {H H' : Hp} (kl : ∀ p xs, SqL K H p xs → SqL K H' p xs) (kt : ∀ p xs, SqT K H p xs → SqT K H' p xs) : ∀ {v : V} {d : PyData}, Dp K H v d → Dp K H' v d
  | _, _, .non => .non
  | _, _, .bl b => .bl b
  | _, _, .int i => .int i
  | _, _, .str z => .str z
  | _, _, .lst h a => .lst (kl _ _ h) (dpa_seq kl kt a)
  | _, _, .tup h a => .tup (kt _ _ h) (dpa_seq kl kt a)
theorem dpa_seq {K : PySem.W.Frag} {H H' : Hp} (kl : ∀ p xs, SqL K H p xs → SqL K H' p xs) (kt : ∀ p xs, SqT K H p xs → SqT K H' p xs) : ∀ {vs : List V} {ds : List PyData}, DpAll K H vs ds → DpAll K H' vs ds
  | _, _, .nil => .nil
  | _, _, .cons h a => .cons (dp_seq kl kt h) (dpa_seq kl kt a)
end
theorem sql_put {K : PySem.W.Frag} {H : Hp} {a : Addr} {u o : HO} (e : H a = some u) (n1 : ∀ xs, u ≠ .lst xs) (n2 : ∀ o xs, u ≠ .frz o (.lst xs)) : ∀ p xs, SqL K H p xs → SqL K (upd H a o) p xs := fun p xs h => by
  rcases h with (h | ⟨z, h⟩) | h
  · exact .inl (.inl (by rw [upd_ne (fun q => by rw [q, e] at h; exact n1 _ (Option.some.inj h))]; exact h))
  · exact .inl (.inr ⟨z, by rw [upd_ne (fun q => by rw [q, e] at h; exact n2 _ _ (Option.some.inj h))]; exact h⟩)
  · exact .inr h
theorem sqt_put {K : PySem.W.Frag} {H : Hp} {a : Addr} {u o : HO} (e : H a = some u) (n1 : ∀ xs, u ≠ .tup xs) (n2 : ∀ o xs, u ≠ .frz o (.tup xs)) : ∀ p xs, SqT K H p xs → SqT K (upd H a o) p xs := fun p xs h => by
  rcases h with (h | ⟨z, h⟩) | h
  · exact .inl (.inl (by rw [upd_ne (fun q => by rw [q, e] at h; exact n1 _ (Option.some.inj h))]; exact h))
  · exact .inl (.inr ⟨z, by rw [upd_ne (fun q => by rw [q, e] at h; exact n2 _ _ (Option.some.inj h))]; exact h⟩)
  · exact .inr h
theorem dp_ext {K : PySem.W.Frag} {H : Hp} {a b : Addr} {o : HO} {xs : Array Value} {n : Nat} {v : V} {d : PyData} (e : H a = some (extL b xs n)) (h : Dp K H v d) : Dp K (upd H a o) v d :=
  dp_seq (sql_put e (fun _ z => by cases z) (fun _ _ z => by cases z)) (sqt_put e (fun _ z => by cases z) (fun _ _ z => by cases z)) h
/-- sorted(xs, key=f) -/
def rSortKey (K : PySem.W.Frag) (H0 : Hp) (spk : Addr → V → Hp → VK → Prop) : List V → List V → Hp → VK → Prop := fun vs zs H Q => ∃ (a : Addr) (xs : List V) (f : Addr) (kd : V → PyData), vs = [.ref a] ∧ zs = [.ref f] ∧ SqL K H a xs ∧ Wf H ∧ (∀ p, H p = none → H0 p = none) ∧ PySem.W.AllAlike (xs.map kd) ∧ PySem.W.Sortable (xs.map kd) ∧ (∀ x ∈ xs, (kd x).depth ≤ 32) ∧
  (∀ x ∈ xs, ∀ Hj, Same H Hj → Wf Hj → spk f x Hj fun v H'' => Same Hj H'' ∧ Wf H'' ∧ Dp K H'' v (kd x)) ∧
  ∀ Hj p, Same H Hj → Wf Hj → Hj p = none → Q (.ref p) (upd Hj p (.lst (xs.mergeSort (PySem.W.dataLe false kd))))
theorem cr_sortKey {K : PySem.W.Frag} {H0 : Hp} {spk : Addr → V → Hp → VK → Prop} {k : Nat} (hf : ∀ f, KeyFn X f (spk f)) (hr : Room k X.A) (hex : X.ex = []) (hK : X.K = K := by rfl) (hH : X.H_0 = H0 := by rfl) : CallRK X (.builtin "sorted") [Str.ofString "key"] (rSortKey K H0 spk) := by
  subst hK
  subst hH
  intro pins s σ H vs zs us ws Q I r rz h
  obtain ⟨a0, xs, f, kd, rfl, rfl, hs, wf, h0, hal, hso, hdp, turn, q⟩ := h
  obtain ⟨its, rv, hl, hz⟩ := I.list hs
  rw [Vals.ref1 r, Vals.ref1 rz]
  have un := hr.un
  have hzi : its.length ≤ sizeLine := by rw [← rv.length]; exact hz
  show wpAny _ _ (call (.builtin "sorted") [.ref a0] [(Str.ofString "key", .ref f)]) _ _ _
  refine PySem.W.sorted_of_sort hl.isList hzi (PyProof.Rows.ksk_s1 _ _) (fun _ => PyProof.Rows.ksk_l1 _ _) fun E' => ?_
  rw [PyProof.Rows.ksk_t1]
  have hn := PySem.W.copyHeap_at s.heap its
  have I1 : Inv X pins σ H { s with heap := PySem.W.copyHeap s.heap its } := I.kept (t' := s.toks) fun b o e => PySem.W.copyHeap_old e
  have hfr : H (s.heap.objs.size + 1) = none := I.hok.fresh (Nat.le_succ _)
  have hga : s.heap.get? (s.heap.objs.size + 1) = none := Heap.get?_none_of_le (Nat.le_succ _)
  have hk1 : ∀ b o, s.heap.get? b = some o → (PySem.W.copyHeap s.heap its).get? b = some o := fun b o e => PySem.W.copyHeap_old e
  generalize PySem.W.copyHeap s.heap its = h1 at hn I1 hk1 ⊢
  generalize s.heap.objs.size + 1 = a at hn hfr hga ⊢
  have ha : a < h1.objs.size := Heap.lt_size hn
  obtain ⟨e1, ho1⟩ : ∃ e1, (h1.update a (Obj.mapSeq fun _ => (#[] : Array Value))).get? a = some (seqObj "list" #[] e1) := ⟨_, get?_update_seq hn fun _ => #[]⟩
  unfold PyProof.Rows.ksk_tree
  refine wpAny_bind (listItems_at hn rfl ?_)
  refine wpAny_bind (listUpdate_at hn rfl ?_ (by rw [List.size_toArray]; exact hzi) (Nat.zero_le _))
  refine wpAny_bind (seqEpoch_at ho1 rfl ?_)
  refine wpAny_bind (wpAny_newTuple ?_ (by show its.length ≤ _; exact hzi))
  refine wpAny_bind (wpAny_newList ?_ (Nat.zero_le _))
  refine wpAny_holding ?_
  have hsz2 : ((h1.update a (Obj.mapSeq fun _ => (#[] : Array Value))).push (seqObj "tuple" its.toArray 0)).objs.size = h1.objs.size + 1 := by rw [size_push', Heap.size_update]
  have I2 : Inv X pins σ (upd H a (extL a #[] e1)) { s with heap := h1.update a (Obj.mapSeq fun _ => (#[] : Array Value)) } := by
    have I1a : Inv X pins σ (upd H a (extL a its.toArray 0)) { s with heap := h1 } := I.laidN (t' := s.toks) hk1 hga hfr (extL_ok hn)
    have := I1a.write (x := a) (e := a) (t' := s.toks) (h' := h1.update a (Obj.mapSeq fun _ => (#[] : Array Value))) (o := extL a #[] e1) (by rw [upd_same]; trivial) (.inl rfl) (fun b u hb hu => by rw [Heap.get?_update_ne _ _ _ _ hb]; exact hu) ⟨_, ho1⟩ (extL_ok ho1)
    rw [upd_upd] at this
    exact this
  have ho2 : (((h1.update a (Obj.mapSeq fun _ => (#[] : Array Value))).push (seqObj "tuple" its.toArray 0)).push (seqObj "list" #[] 0)).get? a = some (seqObj "list" #[] e1) := Heap.get?_push_of_some _ (Heap.get?_push_of_some _ ho1)
  have hS2 : (((h1.update a (Obj.mapSeq fun _ => (#[] : Array Value))).push (seqObj "tuple" its.toArray 0)).push (seqObj "list" #[] 0)).get? ((h1.update a (Obj.mapSeq fun _ => (#[] : Array Value))).push (seqObj "tuple" its.toArray 0)).objs.size = some (seqObj "list" #[] 0) := Heap.get?_push_size _ rfl
  have nkS : (upd H a (extL a #[] e1)) ((h1.update a (Obj.mapSeq fun _ => (#[] : Array Value))).push (seqObj "tuple" its.toArray 0)).objs.size = none := I2.hok.fresh (by rw [hsz2, Heap.size_update]; exact Nat.le_succ _)
  have hlek : (h1.update a (Obj.mapSeq fun _ => (#[] : Array Value))).objs.size ≤ ((h1.update a (Obj.mapSeq fun _ => (#[] : Array Value))).push (seqObj "tuple" its.toArray 0)).objs.size := by rw [hsz2, Heap.size_update]; exact Nat.le_succ _
  have hka : ((h1.update a (Obj.mapSeq fun _ => (#[] : Array Value))).push (seqObj "tuple" its.toArray 0)).objs.size ≠ a := by rw [hsz2]; exact Nat.ne_of_gt (Nat.lt_succ_of_lt ha)
  show wpAny _ _ (PyProof.Rows.ksk_rest a (.ref f) false its.toArray e1 (.ref ((h1.update a (Obj.mapSeq fun _ => (#[] : Array Value))).push (seqObj "tuple" its.toArray 0)).objs.size)) _ _ { s with heap := ((h1.update a (Obj.mapSeq fun _ => (#[] : Array Value))).push (seqObj "tuple" its.toArray 0)).push (seqObj "list" #[] 0) }
  generalize ((h1.update a (Obj.mapSeq fun _ => (#[] : Array Value))).push (seqObj "tuple" its.toArray 0)).objs.size = kS at hS2 nkS hka hlek ⊢
  have I3 := I2.laid (a := kS) (o := extL kS #[] 0) (t' := s.toks) (h' := ((h1.update a (Obj.mapSeq fun _ => (#[] : Array Value))).push (seqObj "tuple" its.toArray 0)).push (seqObj "list" #[] 0)) (fun b o e => Heap.get?_push_of_some _ (Heap.get?_push_of_some _ e)) hlek (extL_ok hS2)
  have w3 : Wf (upd (upd H a (extL a #[] e1)) kS (extL kS #[] 0)) := (wf.new (o := extL a #[] e1) trivial hfr).new (o := extL kS #[] 0) trivial nkS
  have sm3 : Same H (upd (upd H a (extL a #[] e1)) kS (extL kS #[] 0)) := (same_new hfr).trans (same_new nkS)
  have hkn : H kS = none := (same_new hfr).free nkS
  have ea3 : (upd (upd H a (extL a #[] e1)) kS (extL kS #[] 0)) a = some (extL a #[] e1) := by rw [upd_ne hka.symm, upd_same]
  have ek3 : (upd (upd H a (extL a #[] e1)) kS (extL kS #[] 0)) kS = some (extL kS #[] 0) := upd_same
  generalize upd (upd H a (extL a #[] e1)) kS (extL kS #[] 0) = H3 at I3 w3 sm3 ea3 ek3
  generalize ({ s with heap := ((h1.update a (Obj.mapSeq fun _ => (#[] : Array Value))).push (seqObj "tuple" its.toArray 0)).push (seqObj "list" #[] 0) } : Shared) = s3 at I3 ⊢
  clear ho2 hS2 nkS hlek hsz2 I2 ho1 hn I1 hk1 ha
  unfold PyProof.Rows.ksk_rest
  refine wpAny_bind (wpAny_rule ?_)
  first
    | rw [List.forIn_toArray]
    | (rw [← Array.forIn_toList]; simp only [List.toList_toArray])
    | rw [← Array.forIn_toList]
  have hlen := rv.length
  refine wpAny_bind (PyProof.Rows.ksk_fold (fun i s' => ∃ Hj kA e, Inv X pins σ Hj s' ∧ Same H Hj ∧ Wf Hj ∧ Hj a = some (extL a #[] e1) ∧ Hj kS = some (extL kS kA e) ∧ PySem.W.EachIs (fun u x => ∃ v, RelV v u ∧ Dp X.K Hj v (kd x)) kA.toList (xs.take i)) its 0 s3
    ⟨H3, #[], 0, I3, sm3, w3, ea3, ek3, by rw [List.take_zero]; exact .nil⟩ ?step ?done)
  case step =>
    rintro j u s' hu ⟨Hj, kA, e, Ij, smj, wj, eaj, ekj, hk⟩
    simp only [Nat.zero_add] at hk ⊢
    have hj : j < its.length := (List.getElem?_eq_some_iff.mp hu).1
    obtain ⟨x, hx⟩ : ∃ x, xs[j]? = some x := ⟨_, List.getElem?_eq_getElem (by omega)⟩
    have rx : RelV x u := by
      obtain ⟨u', e1, e2⟩ := Vals.get rv hx
      rw [hu] at e1
      cases e1
      exact e2
    have hz2 : kA.size ≤ its.length := by
      have h1 := hk.length
      rw [Array.length_toList, List.length_take] at h1
      omega
    refine wpAny_bind (wpAny_attempt (wpAny_mono (hf f pins σ Hj s' x u _ Ij rx (turn x (List.mem_of_getElem? hx) Hj smj wj)) (fun v s'' he => ?_) fun _ _ hF => hF.elim))
    obtain ⟨v0, H2, I2, r2, sm2, w2, d2⟩ := he
    try dsimp only
    have ek2 := sm2 _ _ ekj
    have ea2 := sm2 _ _ eaj
    have nk2 := extL_at I2.hok ek2
    obtain ⟨c2, hc2⟩ : ∃ c2, (s''.heap.update kS (Obj.mapSeq (·.push v))).get? kS = some (seqObj "list" (kA.push v) c2) := ⟨_, get?_update_seq nk2 (·.push v)⟩
    refine wpAny_bind (listUpdate_at nk2 rfl ?_ (Nat.le_trans hz2 hzi) (Nat.le_trans (Nat.le_of_eq (Array.size_push ..)) (Nat.succ_le_succ (Nat.le_trans hz2 hzi))))
    have I4 := I2.write (x := kS) (e := kS) (t' := s''.toks) (h' := s''.heap.update kS (Obj.mapSeq (·.push v))) (o := extL kS (kA.push v) c2) (by rw [ek2]; trivial) (.inl rfl) (fun b u hb hu => by rw [Heap.get?_update_ne _ _ _ _ hb]; exact hu) ⟨_, hc2⟩ (extL_ok hc2)
    have tod : ∀ {w : V} {d : PyData}, Dp X.K H2 w d → Dp X.K (upd H2 kS (extL kS (kA.push v) c2)) w d := fun {w d} h => dp_ext ek2 h
    refine wpAny_pure ⟨rfl, _, kA.push v, c2, I4, ?_, ?_, ?_, upd_same, ?_⟩
    · intro b o e
      rw [upd_ne (ne_of_none e hkn)]
      exact sm2 _ _ (smj _ _ e)
    · exact w2.at (o := extL kS (kA.push v) c2) trivial ek2 fun _ z => by cases z
    · rw [upd_ne hka.symm]
      exact ea2
    · have e3 : xs.take (j + 1) = xs.take j ++ [x] := by rw [List.take_add_one, hx]; rfl
      have e4 : (kA.push v).toList = kA.toList ++ [v] := by simp
      rw [e3, e4]
      exact PySem.W.each_snoc (R := fun u x => ∃ w, RelV w u ∧ Dp X.K (upd H2 kS (extL kS (kA.push v) c2)) w (kd x)) ⟨v0, r2, tod d2⟩ (hk.mono fun u x ⟨w, h1, h2⟩ => ⟨w, h1, tod (dp_keep (fun p o e => sm2 p o e) h2)⟩)
  case done =>
    rintro s' ⟨Hj, kA, e, Ij, smj, wj, eaj, ekj, hk⟩
    have e3 : xs.take (0 + its.length) = xs := List.take_of_length_le (by omega)
    rw [e3] at hk
    have hk' : PySem.W.EachIs (fun u x => ∃ as, Reads s'.heap u (kd x) as) kA.toList xs := hk.mono fun u x ⟨w, h1, h2⟩ => Dp.reads Ij _ _ _ h2 h1
    have hsz : kA.size = its.length := by
      have h1 := hk.length
      rw [Array.length_toList] at h1
      omega
    obtain ⟨G1, g1s, g1n, J1⟩ := Ij.untrack (a := kS) ekj (fr0_none (h0 kS hkn)) hex
    obtain ⟨G2, g2s, g2n, J2⟩ := J1.untrack (a := a) (by rw [delH_ne hka.symm]; exact eaj) (fr0_none (h0 a hfr)) hex
    have nk := extL_at Ij.hok ekj
    have na := extL_at Ij.hok eaj
    have hg : G2.get? kS = none := by
      cases q : G2.get? kS with
      | none => rfl
      | some o =>
        have := g2s _ _ q
        rw [g1n] at this
        cases this
    try dsimp only
    refine wpAny_bind (listItems_at nk rfl ?_)
    refine PySem.W.keyH_end (κ := PySem.W.dataKind s'.heap (xs.map kd)) (h₁ := G2) (fun b o _ e => g1s _ _ (g2s _ _ e)) hg nk na hka (PySem.W.SortsAt.data (PySem.W.each_map (R := fun v d => ∃ as, Reads s'.heap v d as) kd hk') hal hso (fun d hd => ?_)) hsz hzi fun h' tk c kp hn => ⟨rfl, ?_⟩
    · obtain ⟨x, hx, rfl⟩ := List.mem_map.mp hd
      have := hdp x hx
      show X.A.units + 1 + 1 + _ < _
      omega
    · have he := PySem.W.keyedOut_each (R := fun u x => RelV x u) kd (rev := false) ⟨s'.heap, kA.toList, hal, rfl, PySem.W.each_map (R := fun v d => ∃ as, Reads s'.heap v d as) kd hk'⟩ (each_rel rv)
      have hlen2 : (xs.mergeSort (PySem.W.dataLe false kd)).length ≤ sizeLine := by
        rw [List.length_mergeSort]
        exact hz
      have nn : (delH (delH Hj kS) a) a = none := by
        unfold delH
        rw [if_pos rfl]
      have J3 := J2.laidN (a := a) (o := .lst (xs.mergeSort (PySem.W.dataLe false kd))) (t' := tk) (h' := h') (fun b o e => kp b o (fun z => by rw [z, g2n] at e; cases e) e) g2n nn ⟨hlen2, _, c, vals_each he, hn⟩
      have wd : Wf (delH (delH Hj kS) a) := wf_del (wf_del wj ekj) (by rw [delH_ne hka.symm]; exact eaj)
      have smd : Same H (delH (delH Hj kS) a) := fun b o e => by
        rw [delH_ne (ne_of_none e hfr), delH_ne (ne_of_none e hkn)]
        exact smj _ _ e
      exact ⟨.ref a, _, J3, rfl, q _ a smd wd nn⟩
end
end R
namespace R
open PySem PySem.Spec PyProof.Rows L2
/-! ### a class's def that makes a def: its code object is known -/
structure FunC (K : PySem.W.Frag) (x qual : Str) (st : Stmt) (f : Addr) (fd : FuncData) (c : Addr) : Prop where
  ex : ∃ (oc : Value) (od : Option Addr) (kV doc pm : Value) (an : Option Addr) (ct : Value) (osl : Array (Option Value)),
    fd = PySem.W.fnOf x qual (defArgs st) (defBody st) (defScope st) .none kV doc pm an (.ref c) ct ∧ K.lookup f = some ⟨oc, od, .func fd, osl⟩ ∧ PySem.W.codeIn K (.ref c) qual = true
  kp : PySem.W.keepIn K (.ref f) = true
theorem funC_mk {K : PySem.W.Frag} {x qual : Str} {st : Stmt} {f c : Addr} {oc : Value} {od an : Option Addr} {osl : Array (Option Value)} {kV doc pm ct : Value} (l : K.lookup f = some ⟨oc, od, .func (PySem.W.fnOf x qual (defArgs st) (defBody st) (defScope st) .none kV doc pm an (.ref c) ct), osl⟩)
    (cc : PySem.W.codeIn K (.ref c) qual = true) (k : PySem.W.keepIn K (.ref f) = true) : FunC K x qual st f (PySem.W.fnOf x qual (defArgs st) (defBody st) (defScope st) .none kV doc pm an (.ref c) ct) c := ⟨⟨oc, od, kV, doc, pm, an, ct, osl, rfl, l, cc⟩, k⟩
theorem FunC.okX {P : Program} {w : World} {K : PySem.W.Frag} {mg : Str → Option Value} {base : Heap} {x qual : Str} {st : Stmt} {f c : Addr} {fd : FuncData} {N ps : List Str} {k : Nat} {sp : Sp} (F : FunC K x qual st f fd c) (S : FnScope N ps (defScope st)) (len : ∀ vs H Q E, sp vs H Q E → vs.length = ps.length)
    (hbody : ∀ (A : Around) (outer : List Env) (s : Shared) (H : Hp) (vs : List V) (Q : VK) (E : XK), Room k (A.deeper (envOfC qual (defScope st) s.heap.objs.size f (.ref c))) → sp vs H Q E →
      ∃ t, PSs (cxOf (L2N.CX P w) P w K mg base N qual (defScope st) f (.ref c) A outer s H E) (defBody st) t ∧ t { nx := fun _ H' => Q .non H', rt := Q } (start N vs) H) : FnOk P w K mg base (L2N.CX P w) (k + 1) f fd ps sp := by
  obtain ⟨oc, od, kV, doc, pm, an, ct, osl, rfl, lk, hcd⟩ := F.ex
  exact fn_of lk hcd S len fun A outer s H vs Q E hr hsp => hbody A outer s H vs Q E hr hsp
theorem okXC {P : Program} {w : World} {K : PySem.W.Frag} {mg : Str → Option Value} {base : Heap} {x qual : Str} {st : Stmt} {f c : Addr} {fd : FuncData} {N ps : List Str} {k : Nat} {sp : Sp} (F : FunC K x qual st f fd c) (S : FnScope N ps (defScope st)) (len : ∀ vs H Q E, sp vs H Q E → vs.length = ps.length)
    (hbody : ∀ (A : Around) (outer : List Env) (s : Shared) (H : Hp) (vs : List V) (Q : VK) (E : XK), Room k (A.deeper (envOfC qual (defScope st) s.heap.objs.size f (.ref c))) → sp vs H Q E →
      ∃ t, PSs (cxOf (L2N.CX P w) P w K mg base N qual (defScope st) f (.ref c) A outer s H (bE H E)) (defBody st) t ∧ t { nx := fun _ H' => bQ H Q .non H', rt := bQ H Q } (start N vs) H) : FnOk P w K mg base (L2N.CX P w) (k + 1) f fd ps sp := by
  refine fn_backX (F.okX S (fun vs H Q E h => ?_) fun A outer s H vs Q' E' hr h => ?_)
  · obtain ⟨Q, E, _, _, q⟩ := h
    exact len vs H Q E q
  · obtain ⟨Q, E, rfl, rfl, q⟩ := h
    exact hbody A outer s H vs Q E hr q
structure MtAtC (K : PySem.W.Frag) (C : Addr) (m qual : Str) (st : Stmt) (ps : List Str) (c : Addr) : Prop where
  ex : ∃ f fd, Meth K C m f ∧ FunC K m qual st f fd c ∧ Binds K fd ps []
theorem okMC {P : Program} {w : World} {K : PySem.W.Frag} {mg : Str → Option Value} {base : Heap} {m qual : Str} {st : Stmt} {N ps : List Str} {k : Nat} {sp : Sp} {C c : Addr} (F : MtAtC K C m qual st ps c) (S : FnScope N ps (defScope st)) (len : ∀ vs H Q E, sp vs H Q E → vs.length = ps.length)
    (hbody : ∀ (f : Addr) (A : Around) (outer : List Env) (s : Shared) (H : Hp) (vs : List V) (Q : VK) (E : XK), Room k (A.deeper (envOfC qual (defScope st) s.heap.objs.size f (.ref c))) → sp vs H Q E →
      ∃ t, PSs (cxOf (L2N.CX P w) P w K mg base N qual (defScope st) f (.ref c) A outer s H (bE H E)) (defBody st) t ∧ t { nx := fun _ H' => bQ H Q .non H', rt := bQ H Q } (start N vs) H) : OkM P w K mg base (k + 1) C m ps sp := by
  obtain ⟨f, fd, h1, h2, h3⟩ := F.ex
  exact ⟨f, fd, h1, h3, okXC h2 S len (hbody f)⟩
/-- the def made within the def whose code object is at c, at that place -/
structure NestF (K : PySem.W.Frag) (mg : Str → Option Value) (c : Addr) (pos : Pos) (q : Str) : Prop where
  ex : ∃ (P c' bm : Addr) (ps : Array Value) (sl : Array (Option Value)), PySem.W.codeHdIn K c P = true ∧ mainGlobals ≠ P ∧ K.lookup P = some { cls := .none, data := .fields ps } ∧ TriplesOk ps.toList ∧ codeAmong pos ps.toList = some (.ref c') ∧ PySem.W.codeIn K (.ref c') q = true ∧
    mg "__builtins__" = some (.ref bm) ∧ bm ≠ builtinsNs ∧ bm ≠ mainGlobals ∧ bm ≠ P ∧ K.lookup bm = some ⟨.type "module", some builtinsNs, .plain, sl⟩
section
variable {X : Cx}
theorem ps_ndefR {st : Stmt} {c P c' bm : Addr} {ps : Array Value} {sl : Array (Option Value)} {name : Str} {pos : Pos} {i : Nat} (h1 : PySem.W.codeHdIn X.K c P = true) (h2 : mainGlobals ≠ P) (hP : X.K.lookup P = some { cls := .none, data := .fields ps }) (ht : TriplesOk ps.toList) (hc : codeAmong pos ps.toList = some (.ref c'))
    (b1 : X.mg "__builtins__" = some (.ref bm)) (b2 : bm ≠ builtinsNs) (b3 : bm ≠ mainGlobals) (b4 : bm ≠ P) (b5 : X.K.lookup bm = some ⟨.type "module", some builtinsNs, .plain, sl⟩)
    (hst : st = .FunctionDef name (C8.fnArgs st) (C8.fnBody st) [] none [] (C8.fnScope st) none name pos) (hcode : X.env.code = .ref c)
    (hfree : ∀ y ∈ (C8.fnScope st).names, y.2 = .free → X.env.scope.names.lookup y.1 = some .cell ∨ X.env.scope.names.lookup y.1 = some .free) (hd0 : (C8.fnArgs st).defaults = []) (hk0 : (C8.fnArgs st).kw_defaults = [])
    (ha : annTrees (C8.fnArgs st) none X.env = []) (hN : X.N.Nodup) (hi : X.N[i]? = some name) (hx : Loc X.env.scope name) (hf : X.fn name = true ∨ X.env.scope.names.lookup name = some .local) :
    PS X st (NdefX.tNdefK i (NdefX.NF.of st name (X.env.qual ++ name) (cloFrom X.env.cells (C8.fnScope st).names []) c')) := ⟨fun pins s σ H D I h =>
  (NdefX.ps_ndefKS hst (NdefX.tabB_of_K I.mod.kin h1 ⟨bm, _, b1, b2, b3, b4, I.mod.kin bm _ b5, rfl, rfl, rfl⟩ h2) hcode hP ht hc hfree hd0 hk0 ha hN hi hx hf).run pins s σ H D I h⟩
end
end R
namespace R
open PySem PySem.Spec PyProof.Rows L2
section
variable {X : Cx}
/-- str(x), a whole number or a text -/
def rStrW : List V → Hp → VK → Prop := fun xs H Q => match xs with
  | [.int i] => i.natAbs.log2 < 1920 ∧ Q (.str (toString i)) H
  | [.str z] => Q (.str z) H
  | _ => False
theorem callU_strW : CallR X (.type "str") rStrW := imp_c (call_str_int.or SkE.call_str_str) fun xs H Q q => by
  unfold rStrW at q
  split at q
  · exact .inl ⟨_, rfl, q.1, q.2⟩
  · exact .inr ⟨_, rfl, q⟩
  · exact q.elim
/-- xs.count(z), texts -/
def rCntS (K : PySem.W.Frag) : V → List V → Hp → VK → Prop := fun x xs H Q => ∃ (p : Addr) (zs : List Str) (k : Str), x = .ref p ∧ xs = [.str k] ∧ SqL K H p (zs.map V.str) ∧ Q (.int (zs.count k : Nat)) H
def eqs (k : Str) : Value → Bool := fun y => match y with | .str z _ => z.cps.toList == k.cps.toList | _ => false
theorem strs_at : ∀ {zs : List Str} {us : List Value}, Vals (zs.map V.str) us → ∀ u ∈ us, ∃ z t, u = .str z t
  | [], _, .nil, u, m => by cases m
  | z :: zs, _, .cons h r, u, m => by
    rcases List.mem_cons.mp m with e | m
    · obtain ⟨t, rfl⟩ := h
      exact ⟨z, t, e⟩
    · exact strs_at r u m
theorem cps_beq (z k : Str) : (z.cps.toList == k.cps.toList) = (z == k) := by
  by_cases e : z = k
  · subst e
    rw [beq_self_eq_true, beq_self_eq_true]
  · have h1 : (z == k) = false := beq_eq_false_iff_ne.mpr e
    rw [h1]
    exact beq_eq_false_iff_ne.mpr fun q => e (PySem.W.str_of_cps q)
theorem strs_count {k : Str} : ∀ {zs : List Str} {us : List Value}, Vals (zs.map V.str) us → us.countP (eqs k) = zs.count k
  | [], _, .nil => rfl
  | z :: zs, _, .cons h r => by
    obtain ⟨t, rfl⟩ := h
    rw [List.countP_cons, strs_count r, List.count_cons]
    show zs.count k + (if (z.cps.toList == k.cps.toList) = true then 1 else 0) = _
    rw [cps_beq]
theorem mt_lcountS {K : PySem.W.Frag} (hK : X.K = K := by rfl) : MtR X "list.count" (rCntS K) := by
  subst hK
  intro pins s σ H x xs v us Q I rx rxs h
  obtain ⟨p, zs, k, rfl, rfl, hs, q⟩ := h
  cases rx
  obtain ⟨u, rfl, ru⟩ := rxs.one
  obtain ⟨t, rfl⟩ := ru
  obtain ⟨its, rv, ⟨⟨cls, dd, data, sl⟩, n, ho, hc, hdn, hd⟩, hlen⟩ := I.list hs
  simp only at hc hd
  subst hc hd
  refine call_meets PySem.F.slot_list_count ⟨_, ho, rfl⟩ PySem.F.entry_list_count (PySem.F.args_list_count_2 _ _)
    (SeqAt.list_countAt p its.toArray n dd sl (.str k t) (eqs k)) ⟨ho, fun y hy => ?_, ?_⟩
  · obtain ⟨z, t2, rfl⟩ := strs_at rv y (by simpa using hy)
    exact (SeqRoads2.EqGives.str z k t2 t).at _ _
  have ec : its.toArray.toList.countP (eqs k) = zs.count k := strs_count rv
  refine ⟨.int (zs.count k : Nat), H, I.tok _, ⟨s.toks, ?_⟩, q⟩
  show Value.int ((its.toArray.toList.countP (eqs k) : Nat) : Int) s.toks = Value.int ((zs.count k : Nat) : Int) s.toks
  rw [ec]
/-- min(xs, default=None), whole numbers -/
def minO : List Int → Option Int | [] => none | n :: r => some (r.foldl min n)
def rMinDef (K : PySem.W.Frag) : List V → List V → Hp → VK → Prop := fun vs zs H Q => ∃ (a : Addr) (ns : List Int), vs = [.ref a] ∧ zs = [.non] ∧ SqL K H a (ns.map V.int) ∧ Q (match minO ns with | none => .non | some n => .int n) H
theorem alike_ints (ns : List Int) : PySem.W.AlikeAll (ns.map PyData.int) := ⟨fun x hx y hy => by
  obtain ⟨i, _, rfl⟩ := List.mem_map.mp hx
  obtain ⟨j, _, rfl⟩ := List.mem_map.mp hy
  rfl, fun x hx => by
  obtain ⟨i, _, rfl⟩ := List.mem_map.mp hx
  exact fun z => by cases z⟩
theorem depth_ints (ns : List Int) : PyData.depthAll (ns.map PyData.int) = 0 := by
  induction ns with
  | nil => rfl
  | cons n r ih =>
    show max 0 (PyData.depthAll (r.map PyData.int)) = 0
    rw [ih]
    rfl
theorem reads_int {h : Heap} {v : Value} {n : Int} {as : List Addr} (r : Reads h v (.int n) as) : RelV (.int n) v := by
  cases r with
  | int i t => exact ⟨t, rfl⟩
theorem cr_minDef {K : PySem.W.Frag} {k : Nat} (hr : Room k X.A) (hc : X.calm = true) (hK : X.K = K := by rfl) : CallRK X (.builtin "min") [Str.ofString "default"] (rMinDef K) := by
  subst hK
  intro pins s σ H vs zs us ws Q I r rz h
  obtain ⟨a, ns, rfl, rfl, hs, q⟩ := h
  obtain ⟨its, rv, hl, hz⟩ := I.list hs
  obtain rfl := Vals.ref1 r
  obtain ⟨w1, rfl, e1⟩ := vals1 rz
  obtain rfl : w1 = Value.none := e1
  obtain ⟨as, ra⟩ := Dp.readsAll I (ns.map PyData.int) (ns.map V.int) its (dp_ints ns) rv
  have un := hr.un
  refine PySem.W.min_list_default (xs := ns.map PyData.int) (I.ok.hd hc) hl.isList (by simpa using ra) (alike_ints ns) (by rw [depth_ints]; omega) (fun e h' tk hk => ?_) (fun y ys i v h' tk bs e hv rd hk => ?_)
  · have en : ns = [] := by simpa using e
    subst en
    exact ⟨.non, H, I.kept hk, rfl, q⟩
  · cases ns with
    | nil => cases e
    | cons n t =>
      cases e
      rw [PySem.W.minD_ints] at rd
      exact ⟨.int (t.foldl min n), H, I.kept hk, reads_int rd, q⟩
/-- min(xs) of data of one shape -/
def rMinD (K : PySem.W.Frag) : List V → Hp → VK → Prop := fun vs H Q => ∃ (a : Addr) (x : V) (xs : List V) (enc : V → PyData), vs = [.ref a] ∧ SqL K H a (x :: xs) ∧ (∀ y ∈ x :: xs, Dp K H y (enc y)) ∧ PySem.W.AlikeAll ((x :: xs).map enc) ∧ (∀ y ∈ x :: xs, (enc y).depth ≤ 32) ∧ (∀ y ∈ x :: xs, (enc y).canLay0 = true) ∧ ∀ y ∈ x :: xs, enc y = PySem.W.minD (enc x) (xs.map enc) → Q y H
theorem dpa_enc {K : PySem.W.Frag} {H : Hp} (enc : V → PyData) : ∀ {xs : List V}, (∀ y ∈ xs, Dp K H y (enc y)) → DpAll K H xs (xs.map enc)
  | [], _ => .nil
  | _ :: _, h => .cons (h _ List.mem_cons_self) (dpa_enc enc fun y m => h y (List.mem_cons_of_mem _ m))
theorem depth_le {n : Nat} : ∀ {ds : List PyData}, (∀ d ∈ ds, d.depth ≤ n) → PyData.depthAll ds ≤ n
  | [], _ => Nat.zero_le _
  | d :: ds, h => Nat.max_le.mpr ⟨h d List.mem_cons_self, depth_le fun e m => h e (List.mem_cons_of_mem _ m)⟩
theorem cr_minD {K : PySem.W.Frag} {k : Nat} (hr : Room k X.A) (hc : X.calm = true) (hK : X.K = K := by rfl) : CallR X (.builtin "min") (rMinD K) := by
  subst hK
  intro pins s σ H vs us Q I r h
  obtain ⟨a, x, xs, enc, rfl, hs, hd, hal, hdp, hcl, q⟩ := h
  obtain ⟨its, rv, hl, hz⟩ := I.list hs
  obtain rfl := Vals.ref1 r
  obtain ⟨as, ra⟩ := Dp.readsAll I ((x :: xs).map enc) (x :: xs) its (dpa_enc enc hd) rv
  have un := hr.un
  have hdl : PyData.depthAll ((x :: xs).map enc) ≤ 32 := depth_le fun d m => by
    obtain ⟨y, my, rfl⟩ := List.mem_map.mp m
    exact hdp y my
  refine PySem.W.min_list_data (x := enc x) (xs := xs.map enc) (I.ok.hd hc) hl.isList (by simpa using ra) hal (by rw [List.map_cons] at hdl; omega) (fun i v h' tk bs hv rd hk => ?_)
  have hv' : its[i]? = some v := by simpa using hv
  obtain ⟨y, hy, ry⟩ : ∃ y, (x :: xs)[i]? = some y ∧ RelV y v := by
    have hi : i < its.length := (List.getElem?_eq_some_iff.mp hv').1
    have hi2 : i < (x :: xs).length := by rw [rv.length]; exact hi
    refine ⟨(x :: xs)[i], List.getElem?_eq_getElem hi2, ?_⟩
    obtain ⟨u', e1, e2⟩ := Vals.get rv (List.getElem?_eq_getElem hi2)
    rw [hv'] at e1
    cases e1
    exact e2
  have my := List.mem_of_getElem? hy
  obtain ⟨cs, r2⟩ := Dp.reads I _ _ _ (hd y my) ry
  have J : Inv X pins σ H { s with heap := h', toks := tk } := I.kept hk
  obtain ⟨cs2, r3⟩ := Dp.reads J _ _ _ (hd y my) ry
  exact ⟨y, H, J, ry, q y my (Reads.unique r3 _ _ rd).1⟩
end
end R
namespace R
open PySem PySem.Spec PyProof.Rows L2 LamX
/-! ### a def within a def: its table grows -/
theorem same_ext {H H' : Hp} (s : Same H H') : ExtN H H' := fun b o e _ => s b o e
theorem ext_refl (H : Hp) : ExtN H H := fun _ _ e _ => e
theorem ext_trans {H H1 H2 : Hp} (a : ExtN H H1) (b : ExtN H1 H2) : ExtN H H2 := fun x o e n => b x o (a x o e n) n
theorem ext_sqt {K : PySem.W.Frag} {H H' : Hp} (x : ExtN H H') {p : Addr} {xs : List V} (h : SqT K H p xs) : SqT K H' p xs := by
  rcases h with (h | ⟨z, h⟩) | h
  · exact .inl (.inl (x _ _ h fun _ z => by cases z))
  · exact .inl (.inr ⟨z, x _ _ h fun _ z => by cases z⟩)
  · exact .inr h
theorem ext_sql {K : PySem.W.Frag} {H H' : Hp} (x : ExtN H H') {p : Addr} {xs : List V} (h : SqL K H p xs) : SqL K H' p xs := by
  rcases h with (h | ⟨z, h⟩) | h
  · exact .inl (.inl (x _ _ h fun _ z => by cases z))
  · exact .inl (.inr ⟨z, x _ _ h fun _ z => by cases z⟩)
  · exact .inr h
theorem ext_dp {K : PySem.W.Frag} {H H' : Hp} (x : ExtN H H') {v : V} {d : PyData} (h : Dp K H v d) : Dp K H' v d := dp_seq (fun _ _ z => ext_sql x z) (fun _ _ z => ext_sqt x z) h
/-- the heap behind the statement «def», cut back to what was there, functions and codes -/
theorem back_ndef {H H1 : Hp} (wf : Wf H) (x : ExtN H H1) (ta : ∀ b ps, H b = some (.tbl ps) → ∃ qs, H1 b = some (.tbl qs)) : ∃ H2, Back H H2 H1 ∧ ExtN H H2 ∧ (∀ b, H2 b = none → H b = none) ∧ (∀ b φ, H1 b = some (.ext φ) → H2 b = some (.ext φ)) ∧ (∀ b ps, H b = some (.tbl ps) → H2 b = H1 b) := by
  have at0 : ∀ b o, H b = some o → ∃ u, H1 b = some u ∧ ((∀ ps, o ≠ .tbl ps) → u = o) ∧ ((∃ ps, o = .tbl ps) → ∃ qs, u = .tbl qs) := fun b o e => by
    by_cases t : ∃ ps, o = .tbl ps
    · obtain ⟨ps, rfl⟩ := t
      obtain ⟨qs, hq⟩ := ta b ps e
      exact ⟨_, hq, fun n => absurd rfl (n ps), fun _ => ⟨qs, rfl⟩⟩
    · exact ⟨o, x b o e fun ps z => t ⟨ps, z⟩, fun _ => rfl, fun z => absurd z t⟩
  let H2 : Hp := fun b => match H b, H1 b with
    | none, some (.ext φ) => some (.ext φ)
    | none, _ => none
    | some _, u => u
  have e1 : ∀ b o, H b = some o → H2 b = H1 b := fun b o e => by
    simp only [H2, e]
  have e2 : ∀ b φ, H1 b = some (.ext φ) → H2 b = some (.ext φ) := fun b φ h => by
    cases q : H b with
    | some o => rw [e1 b o q, h]
    | none => simp only [H2, q, h]
  have e3 : ∀ b o, H2 b = some o → H1 b = some o ∧ ((∃ u, H b = some u) ∨ ∃ φ, o = .ext φ) := fun b o h => by
    cases q : H b with
    | some u =>
      rw [e1 b u q] at h
      exact ⟨h, .inl ⟨u, rfl⟩⟩
    | none =>
      simp only [H2, q] at h
      split at h
      · rename_i φ _ z
        cases h
        exact ⟨z, .inr ⟨φ, rfl⟩⟩
      · cases h
      · rename_i z
        cases z
  refine ⟨H2, ⟨fun a o h => (e3 a o h).1, e1, fun a o h => ?_⟩, fun b o e n => (e1 b o e).trans (x b o e n), fun b h => ?_, e2, fun b ps e => e1 b _ e⟩
  · obtain ⟨h1, ⟨u, hu⟩ | ⟨φ, rfl⟩⟩ := e3 a o h
    · obtain ⟨u', g1, g2, g3⟩ := at0 a u hu
      rw [h1] at g1
      cases g1
      by_cases t : ∃ ps, u = .tbl ps
      · obtain ⟨qs, rfl⟩ := g3 t
        exact .inl trivial
      · have eo := g2 fun ps z => t ⟨ps, z⟩
        subst eo
        rcases wf a o hu with w | ⟨C, dx, fs, rfl, hd⟩
        · exact .inl w
        · exact .inr ⟨C, dx, fs, rfl, (e1 dx _ hd).trans (x dx _ hd fun _ z => by cases z)⟩
    · exact .inl trivial
  · cases q : H b with
    | none => rfl
    | some o =>
      obtain ⟨u, hu, _⟩ := at0 b o q
      rw [e1 b o q, hu] at h
      cases h
/-- .. told too: tables stay tables -/
theorem ps_tbl {X : Cx} {b : Stmt} {t : TS} {H0 : Hp} (h : PS X b t) (hH : X.H_0 = H0 := by rfl) : PS X b (fun D σ H => t { D with nx := fun σ' H' => (∀ a ps, H0 a = some (.tbl ps) → ∃ qs, H' a = some (.tbl qs)) → D.nx σ' H' } σ H) := by
  subst hH
  refine ⟨fun pins s σ H D I q => thn (h.run pins s σ H _ I q) fun f s1 z => ?_⟩
  cases f with
  | next =>
    obtain ⟨σ', H', I', q⟩ := z
    exact ⟨σ', H', I', q fun a ps e => by
      obtain ⟨more, w⟩ := I'.base.tbls a ps e
      exact ⟨_, w⟩⟩
  | brk => exact z
  | cont => exact z
  | ret u => exact z
/-- a def within the def, that captures nothing: asked for a key -/
theorem key_n {X : Cx} {k : Nat} {mk : Addr → NdefX.NF} {ps : List Str} {sp : Addr → List (Option V) → Sp} {f : Addr} (Fn : ∀ c', NdefX.NOk X.prog X.w X.K X.mg X.base (L2N.CX X.prog X.w) k f (mk c') ps [] (sp c')) (hr : Room (k + 2) X.A) (cp : ∀ c', X.Ok → NdefX.Caps X (mk c').cl [] []) :
    KeyFn X f fun x H Q => ∃ c', H f = some (NdefX.FnO f (mk c')) ∧ H c' = some (CodeO c' (mk c').qual) ∧ (mk c').c = c' ∧ sp c' [] [x] H Q E0 := by
  intro pins σ H s x u Q I rx h
  obtain ⟨c', hf, hc, ec, q⟩ := h
  have C := NdefX.cells_of I (cp c' I.ok)
  refine wpAny_call (codeAny_mono ((Fn c').run X.A.in1.in1 X.stack s H [u] [x] _ Q E0 hr.in1.in1 (env0_in2 I.env0) hf (by rw [ec]; exact hc) C (.cons rx .nil) q) fun r s' hq => ?_)
  cases r with
  | error e =>
    obtain ⟨_, _, _, _, _, _, _, _, _, _, _, _, z⟩ := hq
    exact z.elim
  | ok fl =>
    cases fl with
    | ret u => exact I.after hq
    | next => exact False.elim hq
    | brk => exact False.elim hq
    | cont => exact False.elim hq
theorem ok_there {P : Program} {w : World} {H : Hp} {h : Heap} {a : Addr} {o : HO} (x : ObjOk P w H h a o) : ∃ u, h.get? a = some u := by
  cases o with
  | lst xs => obtain ⟨_, _, _, _, e⟩ := x; exact ⟨_, e⟩
  | tup xs => obtain ⟨_, _, _, o, e, _⟩ := x; exact ⟨_, e⟩
  | dK kvs => obtain ⟨_, _, _, _, o, _, _, e, _⟩ := x; exact ⟨_, e⟩
  | dT kvs => obtain ⟨_, _, _, _, o, _, _, e, _⟩ := x; exact ⟨_, e⟩
  | set S n => obtain ⟨o, _, _, _, e, _⟩ := x; exact ⟨_, e⟩
  | ins C dx fs => obtain ⟨_, _, _, e, _⟩ := x; exact ⟨_, e⟩
  | own y => exact x
  | xd fs => obtain ⟨_, ⟨_, _, _, e, _⟩, _⟩ := x; exact ⟨_, e⟩
  | rng lo hi => obtain ⟨_, _, _, e⟩ := x; exact ⟨_, e⟩
  | frz ob u => obtain ⟨e, _⟩ := x; exact ⟨_, e⟩
  | tbl ps => exact ⟨_, (show h.get? a = some _ from x)⟩
  | met f y => exact ⟨_, (show h.get? a = some _ from x)⟩
  | ext φ => obtain ⟨_, e, _⟩ := x; exact e
/-- a promise over a part of the heap: tables, lists -/
def spPart (sp : Sp) : Sp := fun vs H Q E => ∃ H0 : Hp, (∀ b o, H0 b = some o → H b = some o) ∧ (∀ b o, H0 b = some o → (∃ ps, o = .tbl ps) ∨ (∃ xs, o = .lst xs) ∨ ∃ ob xs, o = .frz ob (.lst xs)) ∧ sp vs H0 (fun v _ => ∀ H', Q v H') E
theorem fn_part {P : Program} {w : World} {K : PySem.W.Frag} {mg : Str → Option Value} {base : Heap} {k : Nat} {f : Addr} {fd : FuncData} {ps : List Str} {sp : Sp} (F : FnOk P w K mg base CX0 k f fd ps sp) : FnOk P w K mg base CX0 k f fd ps (spPart sp) := by
  refine ⟨fun vs H Q E h => ?_, fun A outer s H args us vs Q E hr he hb hv h => ?_⟩
  · obtain ⟨_, _, _, q⟩ := h
    exact F.len _ _ _ _ q
  · obtain ⟨H0, sub, kd, q⟩ := h
    have no : ∀ b, H b = none → H0 b = none := fun b e => by
      cases z : H0 b with
      | none => rfl
      | some o =>
        have := sub b o z
        rw [e] at this
        cases this
    have hok0 : HOk P w H0 s.heap := fun b o e => by
      have x := he.hok b o (sub b o e)
      rcases kd b o e with ⟨_, rfl⟩ | ⟨_, rfl⟩ | ⟨_, _, rfl⟩
      · exact x
      · exact x
      · exact x
    have e0 : Env0 P w K mg base A outer s H0 := ⟨he.frames, he.mod, fun b o e => ⟨(he.bs b o e).1, no b (he.bs b o e).2⟩, he.bsz, he.funs, fun b m => no b (he.frf b m), hok0, he.bare⟩
    refine codeAny_mono (F.run A outer s H0 args us vs _ E hr e0 hb hv q) fun r s' hq => ?_
    cases r with
    | error e => exact hq
    | ok fl =>
      cases fl with
      | next => exact hq
      | brk => exact hq
      | cont => exact hq
      | ret u =>
        obtain ⟨v, H', os, bare, un, hok', rv, q'⟩ := hq
        let H2 : Hp := fun b => match H0 b, H b with
          | none, some o => some o
          | _, _ => H' b
        have a1 : ∀ b o, H0 b = none → H b = some o → H2 b = some o := fun b o e1 e2 => by
          simp only [H2, e1, e2]
        have a2 : ∀ b, H b = none → H2 b = H' b := fun b e1 => by
          simp only [H2, e1]
          cases H0 b <;> rfl
        have a3 : ∀ b o, H0 b = some o → H2 b = H' b := fun b o e1 => by
          simp only [H2, e1]
        have a4 : ∀ b o, H0 b = none → H b = some o → H' b = none := fun b o e1 e2 => by
          obtain ⟨u, hu⟩ := ok_there (he.hok b o e2)
          exact un.free b u hu e1 (by simp)
        have a5 : ∀ b o, H' b = some o → H2 b = some o := fun b o e => by
          cases z : H b with
          | none => rw [a2 b z]; exact e
          | some u =>
            cases y : H0 b with
            | some _ => rw [a3 b _ y]; exact e
            | none =>
              rw [a4 b u y z] at e
              cases e
        have kept : ∀ b o, H0 b = none → H b = some o → ∀ u, s.heap.get? b = some u → s'.heap.get? b = some u := fun b o e1 e2 u hu => un.keep b u hu e1 (fun m => by rw [he.frf b m] at e2; cases e2) (by simp)
        refine ⟨v, H2, os, bare, ⟨fun b o e n => un.keep b o e (no b n), fun b o e n => un.slot b o e (no b n), fun b o e n x => by rw [a2 b n]; exact un.free b o e (no b n) x, un.there, fun b xs e => ?_, fun b o u e => ?_, fun b ps e => ?_⟩, fun b o e => ?_, rv, q' H2⟩
        · cases z : H0 b with
          | none => exact a1 b _ z e
          | some u =>
            have := sub b u z
            rw [e] at this
            cases this
            rw [a3 b _ z]
            exact un.tups b xs z
        · cases z : H0 b with
          | none => exact a1 b _ z e
          | some w =>
            have := sub b w z
            rw [e] at this
            cases this
            rw [a3 b _ z]
            exact un.frzs b o u z
        · cases z : H0 b with
          | none => exact ⟨#[], by rw [a1 b _ z e, Array.append_empty]⟩
          | some w =>
            have := sub b w z
            rw [e] at this
            cases this
            rw [a3 b _ z]
            exact un.tbls b ps z
        · cases y : H' b with
          | some u =>
            have := a5 b u y
            rw [e] at this
            cases this
            exact (hok' b o y).stay (fun _ _ _ q => q) (fun c q => a5 c _ q) fun c xs q => a5 c _ q
          | none =>
            have nb : H0 b = none ∧ H b = some o := by
              cases z : H b with
              | none => rw [a2 b z, y] at e; cases e
              | some u =>
                cases x : H0 b with
                | some _ => rw [a3 b _ x, y] at e; cases e
                | none =>
                  have := a1 b u x z
                  rw [e] at this
                  cases this
                  exact ⟨rfl, rfl⟩
            have o0 : ∀ c, H c = some (.own b) → H0 c = none := fun c q => by
              cases x : H0 c with
              | none => rfl
              | some u =>
                have := sub c u x
                rw [q] at this
                cases this
                rcases kd c _ x with ⟨_, z⟩ | ⟨_, z⟩ | ⟨_, _, z⟩ <;> cases z
            have t0 : ∀ c xs, H c = some (.tup xs) → H0 c = none := fun c xs q => by
              cases x : H0 c with
              | none => rfl
              | some u =>
                have := sub c u x
                rw [q] at this
                cases this
                rcases kd c _ x with ⟨_, z⟩ | ⟨_, z⟩ | ⟨_, _, z⟩ <;> cases z
            refine (he.hok b o nb.2).stay (fun c u hc q => ?_) (fun c q => a1 c _ (o0 c q) q) fun c xs q => a1 c _ (t0 c xs q) q
            rcases hc with rfl | hc
            · exact kept c o nb.1 nb.2 u q
            · exact kept c _ (o0 c hc) hc u q
end R
namespace R
open PySem PySem.Spec PyProof.Rows L2
section
variable {X : Cx} {K : PySem.W.Frag} {o e : Expr} {to te : TE}
theorem pe_joinK {apos pos : Pos} (ho : PE X o to) (he : PE X e te) (hK : X.K = K := by rfl) (hs : starEach [e] X.env = [(false, eval e X.env)] := by rfl) (hbase : attributeBase o "join" X.env (eval o X.env) = eval o X.env := by rfl) (hline : (apos.endLine == pos.line) = true := by rfl) :
    PE X (.Call (.Attribute o "join" apos) [e] [] pos) (tM1 (fun x xs H Q => ∃ a p, ∃ ys : List Str, x = .str a ∧ xs = [.ref p] ∧ (SqL K H p (ys.map V.str) ∨ SqT K H p (ys.map V.str)) ∧
      (ys.map (·.length)).sum + ys.length * a.length ≤ 16777216 ∧ Q (.str (Txt.join a ys)) H) to te) := hK ▸ pe_join ho he hs hbase hline
end
theorem roomU0 {k : Nat} {A : Around} (r : Room k A) : A.units < cLine := by have := r.un; omega
end R
namespace R
open PySem PySem.Spec PyProof.Rows L2
/-! ### a head by facts: the objects at told addresses -/
structure SaysR (fa : List He.Fa) (fn : List He.DefD) (tf : List He.Defn) (ex : List (PySem.W.Frag → Bool)) (h : Heap) (K : PySem.W.Frag) : Prop where
  d : He.SaysD fa fn K
  more : (ex.all fun f => f K) = true
  hd : ∀ p ∈ tf, PySem.W.codeHdIn K (He.cT K p).1 (He.cT K p).2 = true
  out : ∀ p ∈ tf, K.lookup (He.cT K p).2 = none
  empty : ∀ p ∈ tf, h.get? (He.cT K p).2 = some { cls := .none, data := .fields #[] }
/-- the objects under n that p takes, ahead of B -/
def pickN (p : Obj → Bool) (g : Addr → Option Obj) : Nat → PySem.W.Frag → PySem.W.Frag
  | 0, B => B
  | n + 1, B => pickN p g n (match g n with
    | some o => (match p o with
      | true => (n, o) :: B
      | false => B)
    | none => B)
/-- the same, reckoned on the way -/
def pickK {β : Type} (p : Obj → Bool) (g : Addr → Option Obj) : Nat → PySem.W.Frag → (PySem.W.Frag → β) → β
  | 0, B, k => k B
  | n + 1, B, k => match g n with
    | some o => (match p o with
      | true => pickK p g n ((n, o) :: B) k
      | false => pickK p g n B k)
    | none => pickK p g n B k
theorem pickK_eq {β : Type} (p : Obj → Bool) (g : Addr → Option Obj) (k : PySem.W.Frag → β) : ∀ (n : Nat) (B : PySem.W.Frag), pickK p g n B k = k (pickN p g n B)
  | 0, B => rfl
  | n + 1, B => by
    unfold pickK pickN
    cases g n with
    | none => exact pickK_eq p g k n B
    | some o =>
      cases h : p o with
      | true =>
        simp only [h]
        exact pickK_eq p g k n _
      | false =>
        simp only [h]
        exact pickK_eq p g k n _
theorem pickN_mem {p : Obj → Bool} {g : Addr → Option Obj} {a : Addr} {o : Obj} : ∀ {n : Nat} {B : PySem.W.Frag}, (a, o) ∈ pickN p g n B → (a, o) ∈ B ∨ (g a = some o ∧ p o = true)
  | 0, B, h => .inl h
  | n + 1, B, h => by
    unfold pickN at h
    rcases pickN_mem h with h | h
    · cases e : g n with
      | none =>
        rw [e] at h
        exact .inl h
      | some u =>
        rw [e] at h
        cases q : p u with
        | true =>
          simp only [q] at h
          rcases List.mem_cons.mp h with h | h
          · cases h
            exact .inr ⟨e, q⟩
          · exact .inl h
        | false =>
          simp only [q] at h
          exact .inl h
    · exact .inr h
def pA : Obj → Bool := fun o => match o.data with
  | .cls _ => true
  | .dict _ _ => true
  | _ => false
def pB : Obj → Bool := fun o => match o.data with
  | .func _ => true
  | .seq _ _ => true
  | .fields vs => !(vs.size == 0)
  | _ => false
def kR (N : Nat) (g : Addr → Option Obj) : PySem.W.Frag := pickN pA g N (pickN pB g N [])
theorem kR_at {N : Nat} {g : Addr → Option Obj} {a : Addr} {o : Obj} (h : (kR N g).lookup a = some o) : g a = some o ∧ He.emptyTab o = false := by
  have ne : ∀ {o : Obj}, pA o = true ∨ pB o = true → He.emptyTab o = false := fun {o} h => by
    cases e : He.emptyTab o with
    | false => rfl
    | true =>
      have := He.emptyTab_eq e
      subst this
      rcases h with h | h <;> cases h
  rcases pickN_mem (He.lookup_mem h) with h | h
  · rcases pickN_mem h with h | h
    · cases h
    · exact ⟨h.1, ne (.inr h.2)⟩
  · exact ⟨h.1, ne (.inl h.2)⟩
def obsR (N : Nat) (fa : List He.Fa) (fn : List He.DefD) (tf : List He.Defn) (ex : List (PySem.W.Frag → Bool)) (g : Addr → Option Obj) : He.AlD × Bool :=
  pickK pB g N [] fun B => pickK pA g N B fun K => (He.obsD fa fn K, (ex.all fun f => f K) && He.tabsB g tf K)
section
variable {N : Nat} {fa : List He.Fa} {fn : List He.DefD} {tf : List He.Defn} {ex : List (PySem.W.Frag → Bool)}
theorem saysR_of {h : Heap} (e : obsR N fa fn tf ex h.get? = (He.valD fn, true)) : SaysR fa fn tf ex h (kR N h.get?) := by
  unfold obsR at e
  rw [pickK_eq, pickK_eq] at e
  have q1 : He.obsD fa fn (kR N h.get?) = He.valD fn := congrArg Prod.fst e
  have q2 : ((ex.all fun f => f (kR N h.get?)) && He.tabsB h.get? tf (kR N h.get?)) = true := congrArg Prod.snd e
  rw [Bool.and_eq_true] at q2
  have tab : ∀ p ∈ tf, PySem.W.codeHdIn (kR N h.get?) (He.cT (kR N h.get?) p).1 (He.cT (kR N h.get?) p).2 = true ∧ ∃ o, h.get? (He.cT (kR N h.get?) p).2 = some o ∧ He.emptyTab o = true := fun p hp => by
    have z := List.all_eq_true.mp q2.2 p hp
    rw [Bool.and_eq_true] at z
    refine ⟨z.1, ?_⟩
    have z2 := z.2
    cases w : h.get? (He.cT (kR N h.get?) p).2 with
    | none =>
      rw [w] at z2
      cases z2
    | some o =>
      rw [w] at z2
      exact ⟨o, rfl, z2⟩
  refine ⟨q1, q2.1, fun p hp => (tab p hp).1, fun p hp => ?_, fun p hp => ?_⟩
  · obtain ⟨_, o, w, z⟩ := tab p hp
    cases q : (kR N h.get?).lookup (He.cT (kR N h.get?) p).2 with
    | none => rfl
    | some u =>
      obtain ⟨r1, r2⟩ := kR_at q
      rw [w] at r1
      cases r1
      rw [z] at r2
      cases r2
  · obtain ⟨_, o, w, z⟩ := tab p hp
    rw [w, He.emptyTab_eq z]
def hookR (N : Nat) (fa : List He.Fa) (fn : List He.DefD) (tf : List He.Defn) (ex : List (PySem.W.Frag → Bool)) : PySem.W.Hook where
  α := He.AlD × Bool
  obs := fun s => obsR N fa fn tf ex s.heap.get?
  val := fun _ => (He.valD fn, true)
  says := fun _ h => ∃ K : PySem.W.Frag, K.In h ∧ SaysR fa fn tf ex h K
  of := fun _ _ e => ⟨_, fun _ _ q => (kR_at q).1, saysR_of e⟩
  keeps := fun _ _ _ ⟨K, hK, c⟩ k => ⟨K, PySem.W.Frag.In.keeps hK k, ⟨c.d, c.more, c.hd, c.out, fun p hp => k _ _ (c.empty p hp)⟩⟩
theorem obsR_eq {g : Addr → Option Obj} {s : Shared} (h : ∀ a, g a = s.heap.get? a) : obsR N fa fn tf ex g = (hookR N fa fn tf ex).obs s := by
  obtain rfl : g = s.heap.get? := funext h
  rfl
theorem SaysR.ex_ {h : Heap} {K : PySem.W.Frag} (c : SaysR fa fn tf ex h K) (i : Nat) {f : PySem.W.Frag → Bool} (e : ex[i]? = some f := by rfl) : f K = true := List.all_eq_true.mp c.more f (List.mem_of_getElem? e)
end
section
variable {K : PySem.W.Frag} {x qual : Str} {st : Stmt} {f : Addr} {fd : FuncData}
theorem fun_of (F : FunD K x qual (defArgs st) (defBody st) (defScope st) [] [] f fd) : Fun K x qual st f fd := by
  obtain ⟨oc, od, dV, kV, doc, pm, an, cdv, ct, osl, h1, h2, h3, h4, _⟩ := F.ex
  have e : dV = .none := by
    rcases h4 with h4 | h4
    · exact h4.2
    · exact absurd rfl h4.1
  subst e
  exact ⟨⟨oc, od, kV, doc, pm, an, cdv, ct, osl, h1, h2, h3⟩, F.kp⟩
theorem funC_of {p : Str × Option Str} (F : FunD K x qual (defArgs st) (defBody st) (defScope st) [] [] (He.fAd K p) fd) : FunC K x qual st (He.fAd K p) fd (He.cT K p).1 := by
  obtain ⟨oc, od, dV, kV, doc, pm, an, cdv, ct, osl, h1, h2, h3, h4, _⟩ := F.ex
  have e : dV = .none := by
    rcases h4 with h4 | h4
    · exact h4.2
    · exact absurd rfl h4.1
  subst e
  obtain ⟨c, rfl⟩ := He.codeIn_ref h3
  have ec : (He.cT K p).1 = c := He.codeOf_eq h2 (by rw [h1] <;> rfl)
  rw [ec]
  exact ⟨⟨oc, od, kV, doc, pm, an, ct, osl, h1, h2, h3⟩, F.kp⟩
end
/-- where the law's promise begins -/
theorem part_start {K : PySem.W.Frag} {sp : Sp} {H : Hp} {a tb : Addr} {xs : List V} {E : XK} (hT : H tb = some (.tbl #[])) (hS : SqL K H a xs) (h : ∀ H0 : Hp, Wf H0 → SqL K H0 a xs → H0 tb = some (.tbl #[]) → sp [.ref a] H0 (fun v _ => ∀ _ : Hp, v = .bl true) E) : spPart sp [.ref a] H (fun v _ => v = .bl true) E := by
  by_cases q : ∃ o, H a = some o ∧ ((∃ xs, o = .lst xs) ∨ ∃ ob xs, o = .frz ob (.lst xs))
  · obtain ⟨o, ea, ko⟩ := q
    have na : a ≠ tb := fun z => by
      rw [z, hT] at ea
      cases ea
      rcases ko with ⟨_, z⟩ | ⟨_, _, z⟩ <;> cases z
    let H0 : Hp := fun b => if b = tb then some (.tbl #[]) else if b = a then some o else none
    have e1 : H0 tb = some (.tbl #[]) := if_pos rfl
    have e2 : H0 a = some o := (if_neg na).trans (if_pos rfl)
    have e3 : ∀ b u, H0 b = some u → (b = tb ∧ u = .tbl #[]) ∨ (b = a ∧ u = o) := fun b u z => by
      have z' : (if b = tb then some (HO.tbl #[]) else if b = a then some o else none) = some u := z
      split at z'
      · rename_i g
        exact .inl ⟨g, (Option.some.inj z').symm⟩
      · split at z'
        · rename_i g
          exact .inr ⟨g, (Option.some.inj z').symm⟩
        · cases z'
    refine ⟨H0, fun b u z => ?_, fun b u z => ?_, h H0 (fun b u z => ?_) ?_ e1⟩
    · rcases e3 b u z with ⟨rfl, rfl⟩ | ⟨rfl, rfl⟩
      · exact hT
      · exact ea
    · rcases e3 b u z with ⟨_, rfl⟩ | ⟨_, rfl⟩
      · exact .inl ⟨_, rfl⟩
      · exact .inr ko
    · rcases e3 b u z with ⟨_, rfl⟩ | ⟨_, rfl⟩
      · exact .inl trivial
      · rcases ko with ⟨_, rfl⟩ | ⟨_, _, rfl⟩
        · exact .inl trivial
        · exact .inl trivial
    · rcases hS with (hS | ⟨ob, hS⟩) | hS
      · rw [hS] at ea
        cases ea
        exact .inl (.inl e2)
      · rw [hS] at ea
        cases ea
        exact .inl (.inr ⟨ob, e2⟩)
      · exact .inr hS
  · let H0 : Hp := fun b => if b = tb then some (.tbl #[]) else none
    have e1 : H0 tb = some (.tbl #[]) := if_pos rfl
    have e3 : ∀ b u, H0 b = some u → b = tb ∧ u = .tbl #[] := fun b u z => by
      have z' : (if b = tb then some (HO.tbl #[]) else none) = some u := z
      split at z'
      · rename_i g
        exact ⟨g, (Option.some.inj z').symm⟩
      · cases z'
    refine ⟨H0, fun b u z => ?_, fun b u z => ?_, h H0 (fun b u z => ?_) ?_ e1⟩
    · obtain ⟨rfl, rfl⟩ := e3 b u z
      exact hT
    · obtain ⟨_, rfl⟩ := e3 b u z
      exact .inl ⟨_, rfl⟩
    · obtain ⟨_, rfl⟩ := e3 b u z
      exact .inl trivial
    · rcases hS with (hS | ⟨ob, hS⟩) | hS
      · exact absurd ⟨_, hS, .inl ⟨_, rfl⟩⟩ q
      · exact absurd ⟨_, hS, .inr ⟨_, _, rfl⟩⟩ q
      · exact .inr hS
end R
namespace R
open PySem PySem.Spec PyProof.Rows L2
/-- what is looked at behind the top's run, a part at a time -/
def RunP (N : Nat) (E : Option PySem.W.SharedT) {β : Type} (f : PySem.W.SharedT → PySem.W.Frag → β) (v : β) : Prop := (E.map fun s => pickK pB (HandSHeadRun.getT s) N [] fun B => pickK pA (HandSHeadRun.getT s) N B fun K => f s K) = some v
theorem run_join {N : Nat} {E : Option PySem.W.SharedT} {fa : List He.Fa} {fn : List He.DefD} {tf : List He.Defn} {ex : List (PySem.W.Frag → Bool)} {α β : Type} {a : PySem.W.SharedT → α} {b : PySem.W.SharedT → β} {va : α} {vb : β} (h1 : (E.map fun s => (a s, b s)) = some (va, vb))
    (h2 : RunP N E (fun s K => (fa.all fun f => f.ok K) && ((ex.all fun f => f K) && He.tabsB (HandSHeadRun.getT s) tf K)) true) (h3 : RunP N E (fun _ K => fn.all fun d => d.ok K) true) (h4 : RunP N E (fun _ K => fn.map fun d => He.fnW K d.at_) (fn.map He.DefD.val)) :
    (E.map fun s => (a s, b s, obsR N fa fn tf ex (HandSHeadRun.getT s))) = some (va, vb, (He.valD fn, true)) := by
  cases E with
  | none => cases h1
  | some s =>
    have q1 := Option.some.inj h1
    have q2 := Option.some.inj h2
    have q3 := Option.some.inj h3
    have q4 := Option.some.inj h4
    simp only [pickK_eq] at q2 q3 q4
    rw [Bool.and_eq_true] at q2
    have e : obsR N fa fn tf ex (HandSHeadRun.getT s) = (He.valD fn, true) := by
      unfold obsR He.obsD He.valD
      simp only [pickK_eq]
      rw [q2.1, q2.2, q3, q4]
      rfl
    show some (a s, b s, obsR N fa fn tf ex (HandSHeadRun.getT s)) = _
    rw [e, (Prod.mk.inj q1).1, (Prod.mk.inj q1).2]
end R
namespace R
open PySem PySem.Spec PyProof.Rows L2
section
variable {X : Cx} {K : PySem.W.Frag} {o e : Expr} {es : List Expr} {to : TE} {t : TA} {name : Str} {apos cpos : Pos} {T id : String} {r : V → List V → Hp → VK → Prop}
/-- a builtin method, its reading told (for comprehensions) -/
theorem pe_bmK (pa : PlainAttrs T) (slot : Slot T name id) (hty : typeOf (.builtin id) = pure (.type "method_descriptor")) (hm : MtR X id r) (ho : PE X o to) (ha : PA X (e :: es) t) (hK : X.K = K := by rfl)
    (hbase : attributeBase o name X.env (eval o X.env) = eval o X.env := by rfl)
    (hfew : ((backTo cpos (starEach (e :: es) X.env)).all (fun x => !x.1) && (backToKw cpos (keywordEach [] X.env)).all (fun x => x.1.isSome)
      && decide ((e :: es).length + ([] : List Keyword).length + (if ([] : List Keyword).isEmpty then 0 else 1) < 30)) = true := by rfl)
    (hline : (apos.endLine == cpos.line) = true := by rfl) (hs : starEach (e :: es) X.env = (false, eval e X.env) :: starEach es X.env := by rfl) (hplain : (backTo cpos (starEach es X.env)).any (·.1) = false := by rfl) :
    PE X (.Call (.Attribute o name apos) (e :: es) [] cpos) (tBM K T r to t) := hK ▸ pe_bm pa slot hty hm ho ha hbase hfew hline hs hplain
end
end R
namespace R
open PySem PySem.Spec PyProof.Rows L2
section
variable {X : Cx}
/-- d.setdefault(k, v), called at once -/
theorem mt_setd : MtR X "dict.setdefault" rSetd := by
  intro pins s σ H x xs v us Q I rx rv h
  obtain ⟨a, kvs, k, d, rfl, rfl, ea, hl, w1, w2⟩ := h
  cases rx
  cases rv with
  | cons ry rv =>
    cases rv with
    | cons rd rv =>
      cases rv
      obtain ⟨z, hd, vs0, rel, dd⟩ := dk_of I.hok ea
      have hz : vs0.length ≤ sizeLine := by rw [← rel.length]; exact z
      refine call_meetsIn F.slot_dict_setdefault dd.typeIs F.entry_dict_setdefault (F.args_dict_setdefault_3 _ _ _) (kt_meets_setdefault (mixKind X.prog X.w) _ (kV_is ry) hd _) ⟨vs0, dd, hz, fun u hu => ?_, fun hn h' dd' hs => ?_⟩
      · have rr := rel.val k
        rw [hu] at rr
        cases hv : valV kvs k with
        | none => rw [hv] at rr; exact False.elim rr
        | some x =>
          rw [hv] at rr
          exact (⟨x, H, I.tok _, rr, w1 x hv⟩ : EP X pins σ Q u _)
      · have rr := rel.val k
        rw [hn] at rr
        cases hv : valV kvs k with
        | some x => rw [hv] at rr; exact False.elim rr
        | none =>
          have hl2 : (putK kvs k d).length ≤ sizeLine := by have := length_putK kvs k d; omega
          exact (⟨d, _, d_write (t' := s.toks + 1) I (by rw [ea]; exact True.intro) hs (let ⟨q, _, _, hq, _⟩ := dd'; ⟨q, hq⟩) (dk_new hl2 hd (rel.put k rd) dd'), rd, w2 hv⟩ : EP X pins σ Q _ _)
/-- d.update(e), two dicts of ints and texts -/
def rUpdD : V → List V → Hp → VK → Prop := fun x vs H Q => ∃ (a b : Addr) (kvs more : List (Key × V)), x = .ref a ∧ vs = [.ref b] ∧ a ≠ b ∧ H a = some (.dK kvs) ∧ H b = some (.dK more) ∧ kvs.length + more.length ≤ sizeLine ∧ Q .non (upd H a (.dK (mergeK kvs more)))
theorem mt_updD : MtR X "dict.update" rUpdD := by
  intro pins s σ H x xs v us Q I rx rv h
  obtain ⟨a, b, kvs, more, rfl, rfl, ne, ea, eb, hl, q⟩ := h
  cases rx
  obtain ⟨u, rfl, ru⟩ := rv.one
  cases ru
  obtain ⟨z, hd, vs0, rel, dd⟩ := dk_of I.hok ea
  obtain ⟨z2, hd2, vs2, rel2, dd2⟩ := dk_of I.hok eb
  have hz : vs0.length + vs2.length ≤ sizeLine := by rw [← rel.length, ← rel2.length]; exact hl
  refine call_meetsIn F.slot_dict_update dd.typeIs F.entry_dict_update (F.args_dict_update_2 _ _) (meets_dict_update (mixKind X.prog X.w) a b ne hd2) ⟨vs0, vs2, dd, dd2, hz, fun h' dd' _ hs => ?_⟩
  have hl2 : (mergeK kvs more).length ≤ sizeLine := Nat.le_trans (length_mergeK more kvs) hl
  exact (⟨.non, _, d_write (t' := s.toks) I (by rw [ea]; exact True.intro) hs (let ⟨q, _, _, hq, _⟩ := dd'; ⟨q, hq⟩) (dk_new hl2 hd (rel2.merge rel) dd'), rfl, q⟩ : EP X pins σ Q _ _)
/-- d != {} -/
def rNe0 : R2 := fun x y H Q => ∃ a b ks, x = .ref a ∧ y = .ref b ∧ H a = some (.dK ks) ∧ H b = some (.dK []) ∧ Q (.bl (!ks.isEmpty)) H
theorem op_ne0 {k : Nat} (hr : Room k X.A) : OpR X (compareOp .NotEq) rNe0 := by
  intro pins s σ H x y v u Q I rx ry h
  obtain ⟨a, b, ks, rfl, rfl, ea, eb, q⟩ := h
  cases ks with
  | nil => exact op_ne_dictA (roomU0 hr) pins s σ H _ _ v u Q I rx ry ⟨a, b, [], [], rfl, rfl, ea, eb, rfl, fun p hp => (by cases hp), q⟩
  | cons p r =>
    obtain rfl : v = Value.ref a := rx
    obtain rfl : u = Value.ref b := ry
    obtain ⟨_, ya, va, ra, da⟩ := (show ObjOk X.prog X.w H s.heap a (.dK (p :: r)) from I.hok a _ ea)
    obtain ⟨_, yb, vb, rb, db⟩ := (show ObjOk X.prog X.w H s.heap b (.dK []) from I.hok b _ eb)
    have hl : va.length ≠ vb.length := by
      rw [← ra.length, ← rb.length]
      exact fun z => by cases z
    exact PySem.W.keq_ne (knd := mixKind X.prog X.w) (r := true) ya yb da db (roomU0 hr) (fun e => absurd e hl) (fin_bl I q (by simp [hl]))
end
end R
namespace R
open PySem PySem.Spec PyProof.Rows L2
/-! ### a comprehension over a dict's keys, within an except suite -/
section
variable {prog : Program} {w : World} {A : Around} {E : Value → Shared → Prop} {s : Shared}
theorem key_end_hot {it d x1 : Addr} {i n ep : Nat} {od : Obj} {es : Array DictEntry} {Q : Option Value → Shared → Prop} (hot : HotX.HotAt A x1 s.heap) (hit : s.heap.IsKeyIter it d i n ep) (hod : s.heap.get? d = some od) (hdd : od.data = .dict es ep)
    (hsz : es.size = n) (hge : n ≤ i) (hQ : ∀ h', (∀ b o, b ≠ it → s.heap.get? b = some o → h'.get? b = some o) → Q none { s with heap := h' }) : wpAny (model prog w) A (pyNext (.ref it)) Q E s := by
  obtain ⟨o, ho, hc, hd⟩ := id hit
  obtain ⟨hh, o1, vs1, h1, d1, c1⟩ := hot
  have hne : it ≠ x1 := fun e => by
    subst e
    rw [ho] at h1
    cases h1
    rw [hd] at d1
    cases d1
    simp [rawInt] at c1
  unfold pyNext
  refine wpAny_bind (wpAny_attempt (wpAny_callSpecial?_slot (name := Str.ofString "__next__") hit.typeIs F.slot_dict_keyiterator_next
    (wpAny_call_entry F.slot_dict_keyiterator_next hit.typeIs F.entry_dict_keyiterator_next ?_ (F.args_dict_keyiterator_next_1 _))))
  refine wpAny_bind (wpAny_pure ?_)
  refine wpAny_bind ?_
  refine wpAny_bind ?_
  first | refine wpAny_bind (wpAny_typeNameOfWhole_keyiter hit.typeIs (wpAny_pure ?_)) | refine wpAny_bind (wpAny_typeNameOf_keyiter hit.typeIs (wpAny_pure ?_))
  refine wpAny_bind (wpAny_fieldsOf ho hd ?_)
  have hown : Builtin.Dict_items.ownsTuple "dict_keyiterator" = false := by decide
  simp only [hown, Bool.false_eq_true, if_false]
  show wpAny _ _ (if (Value.ref d == Value.none) = true then _ else _) _ _ s
  rw [if_neg (show ¬ ((Value.ref d == Value.none) = true) from Bool.false_ne_true)]
  refine wpAny_bind (wpAny_pure ?_)
  refine wpAny_bind (wpAny_dictEntries hod hdd ?_)
  rw [if_neg (by rw [hsz]; simp)]
  refine wpAny_bind (wpAny_pure ?_)
  refine wpAny_bind (wpAny_dictEpoch hod hdd ?_)
  rw [if_neg (by simp)]
  refine wpAny_pure ?_
  have hge' : es.size ≤ i := by rw [hsz]; exact hge
  simp only [show ¬ ((i : Int) < 0) from by omega, if_false, Int.toNat_natCast, Array.getElem?_eq_none hge']
  refine wpAny_bind ?_
  first | refine wpAny_bind (wpAny_typeNameOfWhole_keyiter hit.typeIs (wpAny_pure ?_)) | refine wpAny_bind (wpAny_typeNameOf_keyiter hit.typeIs (wpAny_pure ?_))
  show wpAny _ _ (setField (.ref it) 0 .none >>= _) _ _ s
  refine wpAny_bind (wpAny_setField ho hd (by simp) ?_)
  show wpAny _ _ (newExc (.type "StopIteration") [] >>= _) _ _ _
  have h1u : (s.heap.update it (Obj.mapFields (·.setIfInBounds 0 Value.none))).get? x1 = some o1 := (Heap.get?_update_other _ _ hne).trans h1
  refine wpAny_bind ?_
  simp only [newExc, newTuple]
  refine wpAny_bind (wpAny_newObj_type ?_ (by size_fits))
  refine wpAny_bind (m := firstArgMember _ _) (wpAny_of_eq (a := Value.none) (by first | rfl | (simp only [firstArgMember]; rfl)) ?_)
  refine wpAny_newObj_type ?_ (by size_fits)
  refine HotX.raiseNew_hot ⟨hh, o1, vs1, Heap.get?_push_of_some _ (Heap.get?_push_of_some _ h1u), d1, c1⟩ (Nat.ne_of_lt (Heap.lt_size (Heap.get?_push_of_some _ h1u))) (Heap.get?_push_size _ rfl) rfl (by first | (simp; done) | (simp; omega) | (simp only [Array.size_append]; simp; omega)) ?_
  refine wpAny_bind (wpAny_isInstance (T := "StopIteration") (b := true) ⟨_, Heap.get?_update_self _ (Heap.get?_push_size _ rfl) rfl, rfl⟩ isSubtype_stop ?_)
  refine wpAny_pure (hQ _ fun b o hb e => ?_)
  have e1 : (s.heap.update it (Obj.mapFields (·.setIfInBounds 0 Value.none))).get? b = some o := (Heap.get?_update_other _ _ (Ne.symm hb)).trans e
  rw [Heap.get?_update_other _ _ (Nat.ne_of_gt (Heap.lt_size (Heap.get?_push_of_some _ e1)))]
  exact Heap.get?_push_of_some _ (Heap.get?_push_of_some _ e1)
end
/-- as L2.Turn, while an exception is handled -/
structure TurnQ (P : Program) (w : World) (K : PySem.W.Frag) (tg : Expr) (J : It) (fp : List Addr) (it : Addr) (tn : Nat → Heap → Prop) : Prop where
  mem : it ∈ fp
  obj : ∀ i h, tn i h → ∀ b ∈ fp, ∃ o, h.get? b = some o ∧ ∀ v, o.data ≠ .cell v
  keep : ∀ i h h', tn i h → (∀ b ∈ fp, ∀ o, h.get? b = some o → h'.get? b = some o) → tn i h'
  item : ∀ (X : Cx), X.prog = P → X.w = w → X.K = K → ∀ (i : Nat) (pins : List (Addr × Obj)) (s : Shared) (σ : L2.St) (H : Hp) (E : Value → Shared → Prop), Inv X pins σ H s → (∀ b ∈ fp, FpOk X pins H b) → tn i s.heap → J.go i H →
    wpAny (model P w) X.A (pyNext (.ref it)) (fun r s1 => ∃ u, r = some u ∧
      wpAny (model P w) X.A (letOwnedTupleGo tg (.ref it) u) (fun _ s2 => ∃ x H', Inv X pins σ H' s2 ∧ RelV x u ∧ J.yld i H x H' ∧ tn (i + 1) s2.heap ∧ ∀ b ∈ fp, H' b = none) E s1) E s
  done : ∀ (X : Cx), X.prog = P → X.w = w → X.K = K → ∀ (i : Nat) (pins : List (Addr × Obj)) (s : Shared) (σ : L2.St) (H : Hp) (E : Value → Shared → Prop), Inv X pins σ H s → (∃ x1, HotX.HotAt X.A x1 s.heap) → (∀ b ∈ fp, FpOk X pins H b) → tn i s.heap → J.stop i H →
    wpAny (model P w) X.A (pyNext (.ref it)) (fun r s1 => r = none ∧ Inv X pins σ H s1) E s
  self : ∀ (A : Around) (i : Nat) (s : Shared) (Q : Value → Shared → Prop) (E : Value → Shared → Prop), tn i s.heap → Q (.ref it) s → wpAny (model P w) A (pyIter (.ref it)) Q E s
theorem turn_keysQ {P : Program} {w : World} {K : PySem.W.Frag} {tg : Expr} {d : Addr} {o : Obj} {es : Array DictEntry} {ep : Nat} {kvs : List (Key × V)} (it : Addr) (hod : o.data = .dict es ep) : TurnQ P w K tg (Itk d o kvs) [it] it (fun i h => h.IsKeyIter it d i kvs.length ep) where
  mem := by simp
  obj := fun i h st b hb => by
    have e : b = it := by simpa using hb
    subst e
    obtain ⟨oi, e, c, dd⟩ := st
    exact ⟨oi, e, fun v z => by rw [dd] at z; cases z⟩
  keep := fun i h h' st k => st.at fun oi e => k it (by simp) oi e
  item := by
    intro X hP hw hK i pins s σ H E I hf st hg
    subst hP hw hK
    obtain ⟨hd, hi⟩ := hg
    obtain ⟨f0, f1, f2, f3, f4, f5⟩ := hf it (by simp)
    obtain ⟨hs, hgd, hx, es', ep', vs, hdt, hsz, kv, hm⟩ := I.frzK hd
    obtain ⟨rfl, rfl⟩ := dict_ep hod hdt
    obtain ⟨⟨k, v⟩, hkv⟩ : ∃ p, kvs[i]? = some p := ⟨kvs[i], List.getElem?_eq_getElem hi⟩
    obtain ⟨u, hu, ru⟩ := kv_get kv hkv
    have hl : kvs.length = vs.length := Paired.length kv
    rw [hl] at st
    refine wpAny_pyNext_dict_item st hm hu fun key h' hkey st' sb => ?_
    have I1 : Inv X pins σ H { s with heap := h' } := I.turned (t' := s.toks) (fun b ob hb e => (sb.2 b hb).trans e) f0 f1 f3 f4 f5
    obtain ⟨oi, e, c, dd⟩ := id st'
    refine ⟨key, rfl, go_of (s := { s with heap := h' }) e c dd (by decide) ⟨kV k, H, I1, relV_key (show keyIs k key = true from hkey), ⟨rfl, k, v, hkv, rfl⟩, ?_, fun b hb => (hf b hb).1⟩⟩
    show h'.IsKeyIter it d (i + 1) kvs.length _
    rw [hl]
    exact st'
  done := by
    intro X hP hw hK i pins s σ H E I hot hf st hg
    subst hP hw hK
    obtain ⟨x1, hot⟩ := hot
    obtain ⟨hd, hi⟩ := hg
    obtain ⟨f0, f1, f2, f3, f4, f5⟩ := hf it (by simp)
    obtain ⟨hs, hgd, hx, es', ep', vs, hdt, hsz, kv, hm⟩ := I.frzK hd
    obtain ⟨rfl, rfl⟩ := dict_ep hod hdt
    exact key_end_hot hot st hgd hdt hsz hi fun h' eb => ⟨rfl, I.turned (t' := s.toks) (fun b ob hb e => eb b ob hb e) f0 f1 f3 f4 f5⟩
  self := fun A i s Q E st h => wpAny_pyIter_keyiter st h
def PIEQ (X : Cx) (pins : List (Addr × Obj)) (σ : L2.St) (tg : Expr) (R : It → Hp → Prop) (itv : Value) (s2 : Shared) : Prop :=
  ∃ (it : Addr) (fp : List Addr) (tn : Nat → Heap → Prop) (J : It) (H' : Hp), itv = .ref it ∧ Inv X pins σ H' s2 ∧ TurnQ X.prog X.w X.K tg J fp it tn ∧ tn 0 s2.heap ∧ (∀ b ∈ fp, FpOk X pins H' b) ∧ R J H'
structure PIQ (X : Cx) (tg iter : Expr) (wi : TI) : Prop where
  run : ∀ (pins : List (Addr × Obj)) (s : Shared) (σ : L2.St) (H : Hp) (R : It → Hp → Prop), Inv X pins σ H s → wi σ H R →
    wpAny (model X.prog X.w) X.A (eval iter X.env) (fun v s1 => wpAny (model X.prog X.w) X.A (pyIter v) (PIEQ X pins σ tg R) X.xe s1) X.xe s
def iKeysQ (td : TE) : TI := fun σ H R => td σ H fun x H1 => ∃ d o kvs, x = .ref d ∧ H1 d = some (.frz o (.dK kvs)) ∧ R (Itk d o kvs) H1
theorem pi_keysQ {X : Cx} {tg e : Expr} {td : TE} (he : PE X e td) : PIQ X tg e (iKeysQ td) := by
  refine ⟨fun pins s σ H R I h => ?_⟩
  refine thn (he.run pins s σ H _ I h) fun u s1 ⟨x, H1, I1, rx, d, o, kvs, ex, hd, q⟩ => ?_
  subst ex
  obtain rfl : u = Value.ref d := rx
  obtain ⟨hs, hgd, hx, es, ep, vs, hdt, hsz, kv, hm⟩ := I1.frzK hd
  refine iter_keys hs hgd hx hdt ⟨s1.heap.objs.size, [s1.heap.objs.size], _, _, H1, rfl, I1.kept (t' := s1.toks) fun b ob e => Heap.get?_push_of_some _ e, turn_keysQ _ hdt, ⟨_, Heap.get?_push_size _ rfl, rfl, ?_⟩, fun b hb => ?_, q⟩
  · rw [hsz] <;> rfl
  · have e : b = s1.heap.objs.size := by simpa using hb
    subst e
    exact I1.fpOk (Nat.le_refl _) (I1.hok.fresh (Nat.le_refl _))
/-- the exception that is handled stands pinned -/
def HotP (X : Cx) : Prop := ∃ p : Addr × Obj, X.A.handled = some (.ref p.1) ∧ (∃ vs, p.2.data = .fields vs ∧ vs[2]? = some .none) ∧ p ∈ X.pn
theorem hot_suite {X : Cx} {a : Addr} {cls : Value} {d : Option Addr} {oe : Obj} {pn : List (Addr × Obj)} (hz : L2N.Zn cls d oe) (hf : ∃ vs, oe.data = .fields vs) : HotP (X.suite a ((a, oe) :: pn)) := by
  obtain ⟨vs, e⟩ := hf
  exact ⟨(a, oe), rfl, ⟨vs, e, hz.2.2 vs e⟩, List.mem_cons_self⟩
section
variable {X : Cx}
theorem lc_coreQ {pins : List (Addr × Obj)} {s : Shared} {σ : L2.St} {H : Hp} {Q : VK} {elt tg iter : Expr} {ifs : List Expr} {scope : Scope} {own : List (Str × Nat)} {pos pos' : Pos} {wi : TI} {g : TG} {tt : TT} {te : TE} {use : Option (Value → Sem Unit)} {Qf : Value → Shared → Prop}
    (hot : HotP X) (hcl : X.calm = false) (hN : X.N.Nodup) (I : Inv X pins σ H s) (hi : PIQ X tg iter wi) (ok : BlkOk X.N X.env.scope scope own)
    (hg : ∀ (s : Shared) (H : Hp) (C : Addr) (cl : List (Str × Addr)) (fp : List Addr), PG (X.blk s H scope (compEnvC scope cl C X.env) fp) tg g) (ht : ∀ (s : Shared) (H : Hp) (C : Addr) (cl : List (Str × Addr)) (fp : List Addr), PTs (X.blk s H scope (compEnvC scope cl C X.env) fp) ifs tt)
    (he : ∀ (s : Shared) (H : Hp) (C : Addr) (cl : List (Str × Addr)) (fp : List Addr), PE (X.blk s H scope (compEnvC scope cl C X.env) fp) elt te) (hs : ∀ x, foldedSetIterable iter X.env x = pure x)
    (h : tLc wi g tt te (own.map (·.2)) σ H Q)
    (hRR : ∀ D C s' m H', Inv X pins σ H' s' → Q (.ref D) H' → s'.heap.Ns C m → FpOk X pins H' C → compPost (model X.prog X.w) X.A X.xe use Qf (.ref D) C (.ok .next) s') :
    wpAny (model X.prog X.w) X.A (comprehension (.ListComp elt [⟨tg, iter, ifs, 0⟩] scope pos) scope X.env pos' (newList []) false (eval iter X.env) use) Qf X.xe s := by
  obtain ⟨⟨xa, xo⟩, hh, ⟨xvs, xd, xc⟩, hmem⟩ := hot
  have hfree : ∀ y ∈ scope.names, y.2 = .free → ∃ c, X.env.cells.lookup y.1 = some c := fun y hy e => by
    rcases ok.free y hy e with k | k
    · exact I.ok.has _ (.inl k)
    · exact I.ok.has _ (.inr k)
  refine wpAny_comprehension_free (use := use) rfl hs (closure_ok hfree) ok.kind (fun y hy e => by rw [ok.uniq y hy, e])
    (thn (hi.run pins s σ H _ I h) fun xv s1 hx => thn hx fun itv s2 h2 => ?_)
  obtain ⟨it, fp, tn, J, H2, e, I2, T, st2, f2, q⟩ := h2
  subst e
  refine wpAny_newObj_type (newEnv_comp ?_) (by show 0 ≤ sizeLine; decide)
  generalize hD : s2.heap.objs.size = D
  have hDn : H2 D = none := I2.hok.fresh (Nat.le_of_eq hD)
  obtain ⟨W, ⟨m0, w0⟩, turn⟩ := q D hDn
  generalize hs3 : ({ s2 with heap := s2.heap.push { cls := .type "list", data := .seq ([] : List Value).toArray } } : Shared) = s3
  have I3 : Inv X pins σ (upd H2 D (.lst [])) s3 := by
    rw [← hs3]
    refine I2.laid (t' := s2.toks) (fun b o e => Heap.get?_push_of_some _ e) (Nat.le_of_eq hD) ⟨Nat.zero_le _, [], 0, .nil, ?_⟩
    rw [← hD]
    exact Heap.get?_push_size _ rfl
  have h3 : s3.heap = s2.heap.push { cls := .type "list", data := .seq ([] : List Value).toArray } := by rw [← hs3]
  have sz : ∀ b ∈ fp, b < s2.heap.objs.size := fun b hb => by
    obtain ⟨o, e, _⟩ := T.obj _ _ st2 b hb
    exact Heap.lt_size e
  have f3 : ∀ b ∈ fp, FpOk X pins (upd H2 D (.lst [])) b ∧ b < s3.heap.objs.size := fun b hb => by
    have hlt := sz b hb
    refine ⟨⟨?_, (f2 b hb).2⟩, by rw [h3, Heap.size_push]; exact Nat.lt_succ_of_lt hlt⟩
    rw [upd_ne (by rw [← hD]; exact Nat.ne_of_lt hlt)]
    exact (f2 b hb).1
  have st3 : tn 0 s3.heap := T.keep _ _ _ st2 fun b _ o e => by rw [h3]; exact Heap.get?_push_of_some _ e
  have I4 := block_start I3 ok hN f3
  obtain ⟨px1, px2, px3, px4, px5⟩ := I3.pin (xa, xo) (List.mem_append_left _ hmem)
  have xlt : xa < s3.heap.objs.size := Heap.lt_size px1
  have pg := hg s3 (upd H2 D (.lst [])) s3.heap.objs.size (cellsFrom (s3.heap.objs.size + 1) scope.names (cloFrom X.env.cells scope.names [])) fp
  have pt := ht s3 (upd H2 D (.lst [])) s3.heap.objs.size (cellsFrom (s3.heap.objs.size + 1) scope.names (cloFrom X.env.cells scope.names [])) fp
  have pe := he s3 (upd H2 D (.lst [])) s3.heap.objs.size (cellsFrom (s3.heap.objs.size + 1) scope.names (cloFrom X.env.cells scope.names [])) fp
  show codeAny _ _ (.compStart (.ListComp elt [⟨tg, iter, ifs, 0⟩] scope pos) 0 (.ref it) (.ref D) (compEnvC scope (cellsFrom (s3.heap.objs.size + 1) scope.names (cloFrom X.env.cells scope.names [])) s3.heap.objs.size X.env)) (compPost (model X.prog X.w) X.A X.xe use Qf (.ref D) s3.heap.objs.size) { s3 with heap := pushCells (s3.heap.push { cls := .type "dict", data := .dict #[] }) scope.names }
  have nfp : ∀ b ∈ fp, (upd H2 D (.lst [])) b = none := fun b hb => (f3 b hb).1.1
  generalize hce : compEnvC scope (cellsFrom (s3.heap.objs.size + 1) scope.names (cloFrom X.env.cells scope.names [])) s3.heap.objs.size X.env = ce at I4 pg pt pe ⊢
  have cL : ce.locals = s3.heap.objs.size := by subst hce; rfl
  have xfs : xa ∉ frs X.stack := fun hm => by
    rcases List.mem_cons.mp (I3.stkSub xa hm) with z | z
    · exact px3 z
    · exact px4 z
  generalize hH3 : upd H2 D (.lst []) = H3 at I3 I4 pg pt pe w0 nfp f3 px2
  have I4 : Inv (X.blk s3 H3 scope ce fp) [(xa, xo)] (wipe σ (own.map (·.2))) H3 { s3 with heap := pushCells (s3.heap.push { cls := .type "dict", data := .dict #[] }) scope.names } :=
    ⟨I4.ok, I4.os, I4.bare, I4.base, I4.loc, I4.cell, I4.free, I4.freeC, fun p hp => by
      have hp' : p ∈ ([] : List (Addr × Obj)) ++ [(xa, xo)] := hp
      have ep : p = (xa, xo) := by simpa using hp'
      subst ep
      refine ⟨pushCells_keeps _ _ _ _ (Heap.get?_push_of_some _ px1), px2, ?_, xfs, px5⟩
      show xa ≠ ce.locals
      rw [cL]
      exact Nat.ne_of_lt xlt, I4.hok, I4.len⟩
  generalize hs4 : ({ s3 with heap := pushCells (s3.heap.push { cls := .type "dict", data := .dict #[] }) scope.names } : Shared) = s4 at I4 ⊢
  have st4 : tn 0 s4.heap := T.keep _ _ _ st3 fun b _ o e => by rw [← hs4]; exact pushCells_keeps _ _ _ _ (Heap.get?_push_of_some _ e)
  have stat : ∀ {σ' : L2.St} {H' : Hp} {s' : Shared}, Inv (X.blk s3 H3 scope ce fp) [(xa, xo)] σ' H' s' → (∀ b ∈ fp, H' b = none) → ∀ b ∈ fp, FpOk (X.blk s3 H3 scope ce fp) [(xa, xo)] H' b := fun {σ' H' s'} I' hn b hb =>
    ⟨hn b hb, (I'.ok.exf b hb).1, I'.ok.exfs b hb, .inl hb, fun x c e => (I'.ok.exf b hb).2 x c e, fun p hp => by
      have hp' : p ∈ ([] : List (Addr × Obj)) ++ [(xa, xo)] := hp
      have ep : p = (xa, xo) := by simpa using hp'
      subst ep
      exact (f3 b hb).1.2.2.2.2.2 (xa, xo) (List.mem_append_left _ hmem)⟩
  have loop : codeAny (model X.prog X.w) X.A (.compLoop (.ListComp elt [⟨tg, iter, ifs, 0⟩] scope pos) 0 (.ref it) (.ref D) ce) (compPost (model X.prog X.w) X.A X.xe use Qf (.ref D) s3.heap.objs.size) s4 := by
    refine compLoop_any (fun n s' => ∃ i H', Inv (X.blk s3 H3 scope ce fp) [(xa, xo)] (wipe σ (own.map (·.2))) H' s' ∧ tn i s'.heap ∧ (∀ b ∈ fp, H' b = none) ∧ W i n H') ?_ m0 ⟨0, H3, I4, st4, nfp, w0⟩
    rintro n s5 ⟨i, H5, I5, st5, n5, w5⟩
    rcases turn i n H5 w5 with ⟨stop, qq⟩ | ⟨go, Nx, hNx, step⟩
    · have hot5 : ∃ x1, HotX.HotAt X.A x1 s5.heap := ⟨xa, hh, xo, xvs, (I5.pin (xa, xo) (List.mem_append_right _ (List.mem_singleton.mpr rfl))).1, xd, xc⟩
      have td := T.done (X.blk s3 H3 scope ce fp) rfl rfl rfl i [(xa, xo)] s5 _ H5 (fun _ _ => False) I5 hot5 (stat I5 n5) st5 stop
      refine thnF td fun r s6 ⟨hr, I6⟩ => ?_
      subst hr
      have I7 : Inv X pins σ H5 s6 := I3.call' (ch := fp) I6.os I6.base I6.hok I6.bare fun b hb => ⟨(f3 b hb).1.2.2.2.1, (f3 b hb).1.2.1, (f3 b hb).1.2.2.2.2.1, (f3 b hb).1.2.2.2.2.2⟩
      have nC : H5 s3.heap.objs.size = none := by
        have z : H5 ce.locals = none := I6.free
        rw [cL] at z
        exact z
      obtain ⟨m, hn, _⟩ := I6.loc
      have hn : s6.heap.Ns ce.locals m := hn
      rw [cL] at hn
      exact hRR D s3.heap.objs.size s6 m H5 I7 qq hn (I3.fpOk (Nat.le_refl _) nC)
    · have ti := T.item (X.blk s3 H3 scope ce fp) rfl rfl rfl i [(xa, xo)] s5 _ H5 (fun _ _ => False) I5 (stat I5 n5) st5 go
      refine thnF ti fun r s6 ⟨u, hr, h6⟩ => ?_
      subst hr
      refine thnF h6 fun _ s7 ⟨x, H7, I7, r7, y7, st7, n7⟩ => ?_
      have I7' := I7.pinned (stat I7 n7) (T.obj _ _ st7)
      refine thnF (pg.run _ s7 _ H7 x u _ I7' r7 (step x H7 y7)) fun _ s8 ⟨σ8, H8, I8, hw8, q8⟩ => ?_
      refine thnF (pt.run _ s8 σ8 H8 _ I8 q8) fun b s9 ⟨H9, I9, q9⟩ => ?_
      have fin : ∀ {s' : Shared} {H' : Hp}, Inv (X.blk s3 H3 scope ce fp) ([(xa, xo)] ++ pinsAt fp s7.heap) σ8 H' s' → Nx H' → ∃ m, m < n ∧ ∃ i H', Inv (X.blk s3 H3 scope ce fp) [(xa, xo)] (wipe σ (own.map (·.2))) H' s' ∧ tn i s'.heap ∧ (∀ b ∈ fp, H' b = none) ∧ W i m H' := fun {s' H'} I' nx => by
        obtain ⟨m', hm, w'⟩ := hNx H' nx
        have pin' : ∀ b ∈ fp, ∀ o, s7.heap.get? b = some o → s'.heap.get? b = some o ∧ H' b = none := fun b hb o e =>
          let z := I'.pin (b, o) (List.mem_append_right _ (List.mem_append_right _ (mem_pinsAt hb e)))
          ⟨z.1, z.2.1⟩
        have hl : (wipe σ (own.map (·.2))).length = σ8.length := by rw [← hw8, wipe_length]
        refine ⟨m', hm, i + 1, H', (I'.unpinned (pins := [(xa, xo)])).weak hl (fun j v e => ?_), T.keep _ _ _ st7 fun b hb o e => (pin' b hb o e).1, fun b hb => ?_, w'⟩
        · rw [← hw8] at e
          exact (wipe_some e).1
        · obtain ⟨o, e, _⟩ := T.obj _ _ st7 b hb
          exact (pin' b hb o e).2
      cases b with
      | false =>
        simp only [Bool.false_eq_true, if_false] at q9 ⊢
        exact fin I9 q9
      | true =>
        simp only [if_true] at q9 ⊢
        refine thnF (pe.run _ s9 σ8 H9 _ I9 q9) fun z s10 ⟨yv, H10, I10, r10, acc, hD10, hz10, nx⟩ => ?_
        exact app_ok (X := X.blk s3 H3 scope ce fp) I10 hD10 hz10 r10 fun s11 I11 => fin I11 nx
  exact codeAny_compStart_list loop (T.self X.A 0 _ _ _ st4 loop)
theorem pe_lcQ {elt tg iter : Expr} {ifs : List Expr} {scope : Scope} {own : List (Str × Nat)} {pos : Pos} {wi : TI} {g : TG} {tt : TT} {te : TE} (hot : HotP X) (hcl : X.calm = false) (hN : X.N.Nodup) (hi : PIQ X tg iter wi) (ok : BlkOk X.N X.env.scope scope own)
    (hg : ∀ (s : Shared) (H : Hp) (C : Addr) (cl : List (Str × Addr)) (fp : List Addr), PG (X.blk s H scope (compEnvC scope cl C X.env) fp) tg g) (ht : ∀ (s : Shared) (H : Hp) (C : Addr) (cl : List (Str × Addr)) (fp : List Addr), PTs (X.blk s H scope (compEnvC scope cl C X.env) fp) ifs tt)
    (he : ∀ (s : Shared) (H : Hp) (C : Addr) (cl : List (Str × Addr)) (fp : List Addr), PE (X.blk s H scope (compEnvC scope cl C X.env) fp) elt te) (hs : ∀ x, foldedSetIterable iter X.env x = pure x := by intro _; rfl) :
    PE X (.ListComp elt [⟨tg, iter, ifs, 0⟩] scope pos) (tLc wi g tt te (own.map (·.2))) := by
  refine ⟨fun pins s σ H Q I h => ?_⟩
  rw [eval_ListComp]
  refine lc_coreQ hot hcl hN I hi ok hg ht he hs h fun D C s' m H' I' q hn f => ⟨m, hn, fun h'' sb => ?_⟩
  obtain ⟨f0, f1, f2, f3, f4, f5⟩ := f
  exact ⟨.ref D, H', I'.turned (t' := s'.toks) (fun b o hb e => (sb.2 b hb).trans e) f0 f1 f3 f4 f5, rfl, q⟩
end
end R
namespace R
open PySem PySem.Spec PyProof.Rows L2
/-! ### an empty tuple * int: the same tuple -/
theorem tuple_mul0 (l : Addr) (n : Nat) (dd : Option Addr) (sl : Array (Option Value)) (x : Int) (u : Tok) (c0 : (decide (x < -(2 ^ 63)) || decide (x ≥ 2 ^ 63)) = false) :
    Meets (Builtin.«tuple.__mul__» ⟨[.ref l, .int x u], []⟩) (fun _ R s => s.heap.get? l = some { cls := .type "tuple", dict := dd, data := .seq #[] n, slots := sl } ∧ R (.ok (.ret (Value.ref l))) s) :=
  .of_wp fun prog w A R s h => by
    obtain ⟨hp, g, d, tk, os⟩ := s
    obtain ⟨hl, h⟩ := h
    have f1 := AutoSeq1.idx_int
    wp_walk using wpAny_loadPart' hl
    repeat (first
      | (refine wpAny_ite_false (decide_eq_false (by rw [c0]; exact Bool.false_ne_true)) ?_; wp_walk using wpAny_loadPart' hl)
      | (refine wpAny_ite_true (by rfl) ?_; wp_walk using wpAny_loadPart' hl))
    exact ⟨_, rfl, h⟩
def rRepT0 (K : PySem.W.Frag) : R2 := fun x y H Q => ∃ l k, x = .ref l ∧ y = .int k ∧ SqT K H l [] ∧ 2 ≤ k ∧ k ≤ 1000 ∧ Q (.ref l) H
theorem op_repT0 {X : Cx} {K : PySem.W.Frag} (hK : X.K = K := by rfl) : OpR X (binaryOp .Mult) (rRepT0 K) := by
  subst hK
  intro pins s σ H x y v u Q I rx ry h
  obtain ⟨l, k, rfl, rfl, hT, h1, h2, q⟩ := h
  cases rx
  obtain ⟨t, rfl⟩ := ry
  obtain ⟨its, r, ⟨⟨cls, dd, data, sl⟩, ho, hc, n, hd⟩, hs⟩ := I.tuple hT
  simp only at hc hd
  subst hc hd
  cases r
  have c0 : (decide (k < -(2 ^ 63)) || decide (k ≥ 2 ^ 63)) = false := by
    rw [decide_eq_false (by omega), decide_eq_false (by omega)] <;> rfl
  exact wpAny_binaryOp_repeat_ref (T := "tuple") (U := "int") (by decide) ⟨_, ho, rfl⟩ (fun s' => typeIs_int s' k t) noFill_tuple_mul F.fills_int_mul F.slot_int_rmul repeat_tuple F.slot_int_index.lookup
    (call_meets F.slot_int_rmul (typeIs_int s k t) F.entry_int_rmul (F.args_int_rmul_2 _ _) (int_rmul_tuple k t l ([] : List Value).toArray n dd sl)
      ⟨ho, rfl, ⟨_, ho, rfl⟩, call_meets F.slot_tuple_mul ⟨_, ho, rfl⟩ F.entry_tuple_mul (F.args_tuple_mul_2 _ _) (tuple_mul0 l n dd sl k t c0) ⟨ho, ⟨.ref l, H, I, rfl, q⟩⟩⟩)
/-- tuple * int, of any length -/
def rRepA (K : PySem.W.Frag) : R2 := fun x y H Q => ∃ l k xs, x = .ref l ∧ y = .int k ∧ SqT K H l xs ∧ 2 ≤ k ∧ k ≤ 1000 ∧ xs.length ≤ 1000 ∧ ∀ p H', SqT K H' p (List.replicate k.toNat xs).flatten → Same H H' → (Wf H → Wf H') → Q (.ref p) H'
theorem opA_mul {X : Cx} {K : PySem.W.Frag} (hK : X.K = K := by rfl) : OpR X (binaryOp .Mult) (rRepA K) := imp_o ((op_repT0 hK).or (hK ▸ op_repT)) fun x y H Q q => by
  obtain ⟨l, k, xs, rfl, rfl, hx, h1, h2, hz, q⟩ := q
  cases xs with
  | nil =>
    refine .inl ⟨l, k, rfl, rfl, hx, h1, h2, q l H ?_ (Same.refl _) id⟩
    have e : (List.replicate k.toNat ([] : List V)).flatten = [] := by
      rw [List.flatten_eq_nil_iff]
      intro z hz
      exact (List.mem_replicate.mp hz).2
    rw [e]
    exact hx
  | cons a r => exact .inr ⟨l, k, _, rfl, rfl, hx, (fun z => by cases z), h1, h2, hz, fun p np => q p _ (.inl (.inl upd_same)) (same_new np) fun w => w.new trivial np⟩
end R
namespace R
open PySem PySem.Spec PyProof.Rows L2
/-- max(x, y, z), whole numbers -/
def rMax3U : List V → Hp → VK → Prop := fun xs H Q => match xs with
  | [.int i, .int j, .int k] => ∀ m : Int, i ≤ m → j ≤ m → k ≤ m → Q (.int m) H
  | _ => False
theorem callU_max3 {X : Cx} (hc : X.calm = true) : CallR X (.builtin "max") rMax3U := imp_c (call_max3Nu hc) fun xs H Q q => by
  unfold rMax3U at q
  split at q
  · rename_i i j k
    by_cases h1 : i < j
    · by_cases h2 : j < k
      · exact ⟨.int i, .int j, .int k, .int k, rfl, by simp [nuMax3, nuMax2, nuLt, nuCB, h1, h2], q k (by omega) (by omega) (by omega)⟩
      · exact ⟨.int i, .int j, .int k, .int j, rfl, by simp [nuMax3, nuMax2, nuLt, nuCB, h1, h2], q j (by omega) (by omega) (by omega)⟩
    · by_cases h2 : i < k
      · exact ⟨.int i, .int j, .int k, .int k, rfl, by simp [nuMax3, nuMax2, nuLt, nuCB, h1, h2], q k (by omega) (by omega) (by omega)⟩
      · exact ⟨.int i, .int j, .int k, .int i, rfl, by simp [nuMax3, nuMax2, nuLt, nuCB, h1, h2], q i (by omega) (by omega) (by omega)⟩
  · exact q.elim
end R
namespace R
open PySem PySem.Spec PyProof.Rows L2
/-! ### what is never reached -/
theorem pe_never {X : Cx} {e : Expr} : PE X e (fun _ _ _ => False) := ⟨fun _ _ _ _ _ _ h => h.elim⟩
theorem ps_never {X : Cx} {st : Stmt} : PS X st (fun _ _ _ => False) := ⟨fun _ _ _ _ _ _ h => h.elim⟩
end R
namespace R
open PySem PySem.Spec PyProof.Rows L2
/-! ### a set of distinct keys of any kind, from a list -/
section
variable {prog : Program} {w : World} {Q : Type} [DecidableEq Q] {knd : KeyKind prog w Q}
/-- those of the first i keys -/
def firstK (ks : List Q) (i : Nat) : Q → Bool := fun k => decide (k ∈ ks.take i)
theorem firstK_next {ks : List Q} {i : Nat} {k : Q} (hk : ks[i]? = some k) : (fun q => firstK ks i q || decide (q = k)) = firstK ks (i + 1) := by
  funext q
  unfold firstK
  rw [List.take_add_one, hk, ← Bool.decide_or]
  congr 1
  rw [List.mem_append]
  simp
theorem firstK_new {ks : List Q} (nd : ks.Nodup) {i : Nat} {k : Q} (hk : ks[i]? = some k) : firstK ks i k = false := by
  refine decide_eq_false fun m => ?_
  obtain ⟨j, hj⟩ := List.mem_iff_getElem?.mp m
  obtain ⟨hi, e⟩ := List.getElem?_eq_some_iff.mp hk
  rw [List.getElem?_take] at hj
  split at hj
  · rename_i lt
    obtain ⟨hj', e'⟩ := List.getElem?_eq_some_iff.mp hj
    exact List.pairwise_iff_getElem.mp nd j i hj' hi lt (e'.trans e.symm)
  · cases hj
def KeysAt (knd : KeyKind prog w Q) (P : Nat → Value → Prop) (ks : List Q) : Prop := ∀ i v, P i v → ∃ k, ks[i]? = some k ∧ knd.is k v = true ∧ v.scannable = true
theorem set_moved {h h' : Heap} {a : Addr} {S : Q → Bool} {n : Nat} (g : h.SetOf knd a S n) (e : ∀ o, h.get? a = some o → h'.get? a = some o) : h'.SetOf knd a S n := by
  obtain ⟨o, es, ep, t, ho, r⟩ := g
  exact ⟨o, es, ep, t, e o ho, r⟩
variable {A : Around} {R : Result → Shared → Prop} {I : Addr} {fp wr : List Addr} {G : Array GenState → Array GenState → Prop} {n : Nat} {P : Nat → Value → Prop} {St : Nat → Shared → Prop}
theorem fill_keys (W : WalksS prog w A.in1 I fp wr G n P St) {D : Addr} (hD : D ∉ fp) {ks : List Q} (hv : KeysAt knd P ks) (nd : ks.Nodup) (hb : n + 1 < scanBound) :
    ∀ (left i : Nat) (s : Shared), i + left = n → St i s → s.heap.SetOf knd D (firstK ks i) i →
      (∀ s', Moved (D :: wr) G s s' → s'.heap.SetOf knd D (firstK ks n) n → R (.ok (.ret .none)) s') →
      codeAny (model prog w) A (.builtin "set.update.loop" ⟨[.ref D, .ref I], []⟩) R s := by
  have hDw : D ∉ wr := fun m => hD (W.sub _ m)
  have wider : ∀ b ∈ wr, b ∈ D :: wr := fun _ m => List.mem_cons_of_mem _ m
  intro left
  induction left with
  | zero =>
    intro i s e st g out
    obtain rfl : i = n := e
    refine codeAny_builtin PyProof.Rows.F.entry_set_update_loop ?_
    rw [Around.under_plainId PyProof.Rows.F.plain_set_update_loop _]
    refine wpAny_bind (W.done s _ _ st fun s1 m => ?_)
    exact wpAny_pure (out s1 (m.mono wider) (set_moved g fun o ho => m.heap D o hDw ho))
  | succ left ih =>
    intro i s e st g out
    refine codeAny_builtin PyProof.Rows.F.entry_set_update_loop ?_
    rw [Around.under_plainId PyProof.Rows.F.plain_set_update_loop _]
    refine wpAny_bind (W.item i s _ _ (by omega) st fun v s1 hp st1 m => ?_)
    obtain ⟨k, hk, iv, sv⟩ := hv i v hp
    have g1 : s1.heap.SetOf knd D (firstK ks i) i := set_moved g fun o ho => m.heap D o hDw ho
    show wpAny _ A.in1 (holding [v] (setAdd D v) >>= _) _ _ s1
    refine wpAny_bind (wpAny_holding ?_)
    unfold setAdd
    refine wpAny_holding (wpAny_bind (knd.pyHash iv ?_))
    refine wpAny_setAddHashed_of (s := { s1 with toks := s1.toks + 1 }) iv sv g1 (by omega) fun h2 sb g2 => ?_
    rw [firstK_next hk, firstK_new nd hk, if_neg Bool.false_ne_true] at g2
    have off : ∀ b o, b ≠ D → s1.heap.get? b = some o → h2.get? b = some o := fun b o ne ho => (sb.2 b ne).trans ho
    refine wpAny_pure ⟨plainId_quiet PyProof.Rows.F.plain_set_update_loop _, ih (i + 1) _ (by omega) (W.frame _ s1 _ _ st1 (Nat.le_succ _) fun b hbf o ho => off b o (fun z => hD (z ▸ hbf)) ho) g2 fun s3 m3 g3 => out s3 ?_ g3⟩
    exact Moved.trans W.gtrans ((m.mono wider).then_heap (Nat.le_succ _) fun b o hbn ho => off b o (fun z => hbn (z ▸ List.mem_cons_self)) ho) m3
end
section
variable {prog : Program} {w : World} {Q : Type} [DecidableEq Q] {knd : KeyKind prog w Q} {A : Around} {E : Value → Shared → Prop} {s : Shared}
theorem call_set_keys {l : Addr} {items : Array Value} {ks : List Q} {Z : Value → Shared → Prop}
    (hh : A.handled = none) (hl : s.heap.IsList l items) (hv : KeysAt knd (fun i v => items[i]? = some v) ks) (nd : ks.Nodup) (hb : items.size + 1 < scanBound)
    (h : ∀ (h' : Heap) (tk : Nat), h'.SetOf knd s.heap.objs.size (firstK ks items.size) items.size →
      (∀ b o, b < s.heap.objs.size → s.heap.get? b = some o → h'.get? b = some o) → Z (.ref s.heap.objs.size) { s with heap := h', toks := tk }) :
    wpAny (model prog w) A (call (.type "set") [.ref l]) Z E s := by
  obtain ⟨c, tl, hmro⟩ := PySem.F.called_set.mro
  have f1 := PySem.F.called_set.made
  have f2 := PySem.F.called_set.sub
  have f3 := PySem.F.called_set.notType
  have f4 := PySem.F.called_set.canCreate
  have f5 := PySem.F.typeCall_set_1 (.ref l)
  refine wpAny_call (codeAny_of_tree ?_)
  show wpAny _ _ (callAny (.type "set") _) _ _ _
  refine wpAny_pure ⟨Code.quiet_builtin _ (by decide +kernel), codeAny_builtin PySem.F.entry_type_call ?_⟩
  rw [Around.under_plain (weight_type_call_type "set" [.ref l] []) rfl]
  repeat (any_goals (first | assumption | wp_step))
  refine codeAny_mono (code_set_new_1 (.ref l) (E := E) (Q₁ := fun z t => ∃ b : Bool, z = .ref s.heap.objs.size ∧ t = { s with heap := s.heap.push { cls := .type "set", dict := none, data := .set #[] 0 (.fresh 0 0 b) } }) fun b => ⟨b, rfl, rfl⟩) fun r t hr => ?_
  cases r with
  | error e => exact hr
  | ok fl =>
  cases fl
  case ret z =>
    obtain ⟨b, rfl, rfl⟩ := hr
    obtain ⟨new, hnew⟩ : ∃ o : Obj, o = { cls := .type "set", dict := none, data := .set #[] 0 (.fresh 0 0 b) } := ⟨_, rfl⟩
    have hS : (s.heap.push { cls := .type "set", dict := none, data := .set #[] 0 (.fresh 0 0 b) }).get? s.heap.objs.size = some { cls := .type "set", dict := none, data := .set #[] 0 (.fresh 0 0 b) } := Heap.get?_push_size _ rfl
    have hT : Shared.TypeIs { s with heap := s.heap.push { cls := .type "set", dict := none, data := .set #[] 0 (.fresh 0 0 b) } } (.ref s.heap.objs.size) "set" := ⟨_, hS, rfl⟩
    have f6 := PySem.F.called_set.init.lookup
    have f7 := PySem.F.called_set.init.bind (.ref s.heap.objs.size)
    repeat (any_goals (first | assumption | wp_step))
    refine codeAny_mono (codeAny_call_builtin (R := wants (fun r t => r = .none ∧ ∃ h' tk, t = { s with heap := h', toks := tk } ∧ h'.SetOf knd s.heap.objs.size (firstK ks items.size) items.size ∧
        (∀ b o, b < s.heap.objs.size → s.heap.get? b = some o → h'.get? b = some o)) E) PySem.F.called_set.init.plain PySem.F.entry_set_init (check_set_init_1 hT ?_)) fun r2 t2 hr2 => ?_
    · obtain ⟨⟨oc, od, oa, os⟩, hol, hcl, nl, hdl⟩ := hl
      simp only at hcl hdl
      subst hcl hdl
      have g1 := PySem.F.sub_list_set
      have g2 := PySem.F.sub_list_frozenset
      have g3 : (Value.type "list" == Value.type "dict") = false := by decide
      have hol' : (s.heap.push { cls := .type "set", dict := none, data := .set #[] 0 (.fresh 0 0 b) }).get? l = some { cls := .type "list", dict := od, data := .seq items nl, slots := os } := Heap.get?_push_of_some _ hol
      have hl1 : (s.heap.push { cls := .type "set", dict := none, data := .set #[] 0 (.fresh 0 0 b) }).IsList l items := ⟨_, hol', rfl, nl, rfl⟩
      have hlt : l < s.heap.objs.size := Heap.lt_size hol
      unfold Builtin.«set.__init__» noKeywords Builtin.Frozenset.updateFrom
      generalize hPI : pyIter = PI
      wp_walk
      subst hPI
      refine wpAny_pyIter_list hl1 (wpAny_bind (wpAny_runValue ?_))
      have sz : (s.heap.push { cls := .type "set", dict := none, data := .set #[] 0 (.fresh 0 0 b) }).objs.size = s.heap.objs.size + 1 := Heap.size_push ..
      have hne : l ≠ (s.heap.push { cls := .type "set", dict := none, data := .set #[] 0 (.fresh 0 0 b) }).objs.size := by rw [sz]; exact Nat.ne_of_lt (Nat.lt_succ_of_lt hlt)
      refine fill_keys (knd := knd) (D := s.heap.objs.size) ((Walks.list (by simp [hh]) _ l hne items).toS) ?_ hv nd hb items.size 0 _ (by omega) ⟨⟨_, Heap.get?_push_size _ rfl, rfl, rfl⟩, hl1.push _⟩ ?_ fun s3 m3 g3 => ?_
      · rw [sz]
        simp only [List.mem_cons, List.not_mem_nil, or_false, not_or]
        exact ⟨Nat.ne_of_lt (Nat.lt_succ_self _), Nat.ne_of_gt hlt⟩
      · have e0 : firstK ks 0 = fun _ => false := by
          funext k
          exact decide_eq_false fun z => by cases z
        rw [e0]
        exact (PyProof.Rows.setObjOf_fresh (knd := knd) b).setOf (Heap.get?_push_of_some _ hS) (by unfold scanBound; omega)
      · obtain ⟨h3, gn, dr, tk, os3⟩ := s3
        obtain rfl : gn = s.gens := m3.gens
        obtain rfl : dr = s.drawn := m3.drawn
        obtain rfl : os3 = s.os := m3.os
        refine wpAny_pure (wpAny_pure ⟨rfl, h3, tk, rfl, g3, fun a o ha ho => m3.heap a o ?_ (Heap.get?_push_of_some _ (Heap.get?_push_of_some _ ho))⟩)
        rw [sz]
        simp only [List.mem_cons, List.not_mem_nil, or_false, not_or]
        exact ⟨Nat.ne_of_lt ha, Nat.ne_of_lt (Nat.lt_succ_of_lt ha)⟩
    · cases r2 with
      | error e2 => exact hr2
      | ok fl2 =>
      cases fl2
      case ret r =>
        obtain ⟨rfl, h', tk, rfl, g, kp⟩ := hr2
        repeat (any_goals (first | assumption | wp_step))
        exact h _ _ g kp
      all_goals exact hr2.elim
  all_goals exact hr.elim
end
section
variable {X : Cx}
theorem keysAt_strs {prog : Program} {w : World} : ∀ {ys : List Str} {us : List Value}, Vals (ys.map V.str) us → KeysAt (PySem.strKind prog w) (fun i v => us[i]? = some v) ys
  | [], _, .nil => fun i v h => by simp at h
  | y :: ys, _, .cons ⟨k, e⟩ r => fun i v h => by
    cases i with
    | zero =>
      subst e
      obtain rfl : Value.str y k = v := by simpa using h
      exact ⟨y, rfl, strKind_is _ _ _ _, rfl⟩
    | succ i =>
      exact keysAt_strs r i v (by simpa using h)
def tLenSetS (K : PySem.W.Frag) (ta : TE) : TE := fun σ H Q => ta σ H fun x H1 => ∃ (l : Addr) (zs : List Str), x = .ref l ∧ SqL K H1 l (zs.map V.str) ∧ zs.Nodup ∧ zs.length ≤ 4000 ∧ Q (.int (zs.length : Nat)) H1
/-- len(set(xs)), distinct texts -/
theorem pe_lenSetS {a : Expr} {ta : TE} {p p2 q pos : Pos} (hg : Gl X "len") (hm : X.mg "len" = none) (hg2 : Gl X "set") (hm2 : X.mg "set" = none) (ha : PE X a ta) (hc : X.calm = true := by rfl)
    (na : starEach [a] X.env = (false, eval a X.env) :: starEach [] X.env := by rfl) : PE X (.Call (.Name "len" p) [.Call (.Name "set" p2) [a] [] q] [] pos) (tLenSetS X.K ta) := by
  refine ⟨fun pins s σ H Z I h => ?_⟩
  refine Call_ (ld_blt I hg hm boot_len ?_)
  refine PyProof.Rows.callWith_builtin1 (PyProof.Rows.args_cons ?_ rfl) rfl rfl
  refine Call_ (ld_blt I hg2 hm2 boot_set ?_)
  refine PyProof.Rows.callWith_type1 (PyProof.Rows.args_cons (thn (ha.run pins s σ H _ I h) fun v s1 ⟨x, H1, I1, r1, q1⟩ => PyProof.Rows.args_nil ?_) na) na rfl
  obtain ⟨l, zs, rfl, hq, nd, le, q1⟩ := q1
  cases r1
  obtain ⟨its, r, pl, _⟩ := I1.list hq
  have sz : its.toArray.size = zs.length := by rw [List.size_toArray, ← r.length, List.length_map]
  refine call_set_keys (knd := PySem.strKind X.prog X.w) (I1.ok.hd hc) pl.isList (fun i v hv => keysAt_strs r i v (by simpa using hv)) nd (by rw [sz]; unfold scanBound; omega) fun h' tk g kp => PyProof.Rows.args_nil ?_
  obtain ⟨o, es, ep, t, ho, hex, hd, _, _, _, hf, hn⟩ := g
  have I2 : Inv X pins σ H1 { s1 with heap := h', toks := tk } := I1.kept fun b o e => kp b o (Heap.lt_size e) e
  refine call_len_set ho hex hd hf (by rw [hn] <;> omega) ⟨.int zs.length, H1, I2.tok _, ⟨_, by rw [hn, sz]⟩, q1⟩
end
end R
namespace R
open PySem PySem.Spec PyProof.Rows L2
/-! ### list(zip(a, b)) -/
/-- a zip of two lists, i pairs given -/
structure ZipSt (h : Heap) (z TI TO i1 i2 l1 l2 : Addr) (xs ys : Array Value) (i : Nat) : Prop where
  z : (IsZip h z TI TO .none ∧ ∃ a b, IsPair h TO a b) ∨ ∃ T f oT, IsZipHeld h z TI TO T f ∧ h.get? T = some oT
  ti : IsPair h TI (.ref i1) (.ref i2)
  a1 : h.IsListIter i1 l1 i
  a2 : h.IsListIter i2 l2 i
  b1 : h.IsList l1 xs
  b2 : h.IsList l2 ys
/-- the pairs given so far, each a tuple of its own -/
structure Prs (xs ys : Array Value) (lo : Addr) (h : Heap) (as : List Addr) : Prop where
  rise : as.Pairwise (· < ·)
  low : ∀ a ∈ as, lo < a
  at_ : ∀ (j : Nat) (a : Addr), as[j]? = some a → ∃ x y, xs[j]? = some x ∧ ys[j]? = some y ∧ IsPair h a x y
theorem isl_at {h h' : Heap} {l : Addr} {xs : Array Value} (g : h.IsList l xs) (k : ∀ o, h.get? l = some o → h'.get? l = some o) : h'.IsList l xs := by
  obtain ⟨o, ho, r⟩ := g
  exact ⟨o, k o ho, r⟩
section
variable {prog : Program} {w : World} {A : Around} {E : Value → Shared → Prop} {s : Shared} {z TI TO i1 i2 l1 l2 : Addr} {xs ys : Array Value} {i : Nat}
theorem zip_turn {x y : Value} {Q : Option Value → Shared → Prop} (D : ZipApart z TI TO i1 i2 l1 l2) (S : ZipSt s.heap z TI TO i1 i2 l1 l2 xs ys i) (hx : xs[i]? = some x) (hy : ys[i]? = some y)
    (hQ : ∀ h', ZipSt h' z TI TO i1 i2 l1 l2 xs ys (i + 1) → IsPair h' s.heap.objs.size x y → h'.objs.size = s.heap.objs.size + 1 →
      (∀ c o, c ≠ z → c ≠ TO → c ≠ i1 → c ≠ i2 → s.heap.get? c = some o → h'.get? c = some o) → Q (some (.ref s.heap.objs.size)) { s with heap := h' }) :
    wpAny (model prog w) A (pyNext (.ref z)) Q E s := by
  rcases S.z with ⟨hz, a, b, hTO⟩ | ⟨T, f, oT, hz, hT⟩
  · refine wpAny_pyNext_zip_item D hz S.ti hTO S.a1 S.a2 S.b1 S.b2 hx hy fun h' g1 g2 g3 g4 g5 g6 g7 => hQ h' ⟨.inr ⟨_, false, _, g1, g5⟩, g7 _ _ D.TIz D.TITO D.TIi1 D.TIi2 S.ti, g3, g4, isl_at S.b1 fun o e => g7 _ _ D.l1z D.l1TO D.l1i1 D.l1i2 e, isl_at S.b2 fun o e => g7 _ _ D.l2z D.l2TO D.l2i1 D.l2i2 e⟩ g5 g6 g7
  · refine wpAny_pyNext_zip_item_held D hz hT S.ti S.a1 S.a2 S.b1 S.b2 hx hy fun h' g1 g3 g4 g5 g6 g7 => hQ h' ⟨.inr ⟨T, true, ?_⟩, g7 _ _ D.TIz D.TIi1 D.TIi2 S.ti, g3, g4, isl_at S.b1 fun o e => g7 _ _ D.l1z D.l1i1 D.l1i2 e, isl_at S.b2 fun o e => g7 _ _ D.l2z D.l2i1 D.l2i2 e⟩ g5 g6 fun c o c1 _ c3 c4 e => g7 c o c1 c3 c4 e
    by_cases e1 : T = z
    · rw [e1]
      exact ⟨_, by rw [e1] at g1; exact g1, g1⟩
    · by_cases e2 : T = i1
      · obtain ⟨o, ho, _⟩ := g3
        exact ⟨o, g1, by rw [e2]; exact ho⟩
      · by_cases e3 : T = i2
        · obtain ⟨o, ho, _⟩ := g4
          exact ⟨o, g1, by rw [e3]; exact ho⟩
        · exact ⟨oT, g1, g7 T oT e1 e2 e3 hT⟩
theorem zip_over {Q : Option Value → Shared → Prop} (hh : A.handled = none) (D : ZipApart z TI TO i1 i2 l1 l2) (S : ZipSt s.heap z TI TO i1 i2 l1 l2 xs ys i) (hx : xs[i]? = none)
    (hQ : ∀ h', (∀ c o, c ≠ z → c ≠ TO → c ≠ i1 → c ≠ i2 → s.heap.get? c = some o → h'.get? c = some o) → Q none { s with heap := h' }) : wpAny (model prog w) A (pyNext (.ref z)) Q E s := by
  rcases S.z with ⟨hz, a, b, hTO⟩ | ⟨T, f, oT, hz, hT⟩
  · exact wpAny_pyNext_zip_end hh D hz S.ti hTO S.a1 S.a2 S.b1 S.b2 (.inl hx) hQ
  · exact wpAny_pyNext_zip_end_held hh D hz hT S.ti S.a1 S.a2 S.b1 S.b2 (.inl hx) fun h' g => hQ h' fun c o c1 _ c3 c4 e => g c o c1 c3 c4 e
end
section
variable {prog : Program} {w : World} {A : Around} {s : Shared} {R : Result → Shared → Prop} {z TI TO i1 i2 l1 l2 : Addr} {xs ys : Array Value}
/-- the heap but for the list that grows and the zip -/
def KeepZ (L z TO i1 i2 : Addr) (h h' : Heap) : Prop := ∀ b o, b ≠ L → b ≠ z → b ≠ TO → b ≠ i1 → b ≠ i2 → h.get? b = some o → h'.get? b = some o
abbrev lstO (acc : Array Value) (c : Nat) : Obj := { cls := .type "list", dict := none, data := .seq acc c, slots := #[] }
theorem zip_loop (hh : A.handled = none) (D : ZipApart z TI TO i1 i2 l1 l2) {L lo : Addr} (n1 : L ≠ z) (n2 : L ≠ TI) (n3 : L ≠ TO) (n4 : L ≠ i1) (n5 : L ≠ i2) (n6 : l1 ≠ L) (n7 : l2 ≠ L)
    (o1 : L ≤ lo) (o2 : z ≤ lo) (o3 : TO ≤ lo) (o4 : i1 ≤ lo) (o5 : i2 ≤ lo) (hn : xs.size = ys.size) (hz : xs.size ≤ sizeLine) (res : Value) {h₀ : Heap}
    (hR : ∀ h' tk acc c as, KeepZ L z TO i1 i2 h₀ h' → h'.get? L = some (lstO acc c) → as.length = xs.size → Prs xs ys lo h' as → acc.toList = as.map Value.ref → R (.ok (.ret res)) { s with heap := h', toks := tk }) :
    ∀ (left i : Nat) (h : Heap) (tk c : Nat) (acc : Array Value) (as : List Addr), i + left = xs.size → ZipSt h z TI TO i1 i2 l1 l2 xs ys i → KeepZ L z TO i1 i2 h₀ h → h.get? L = some (lstO acc c) → acc.toList = as.map Value.ref → as.length = i → Prs xs ys lo h as → lo < h.objs.size →
      codeAny (model prog w) A (.builtin "list.extend.loop" ⟨[.ref L, .ref z, res], []⟩) R { s with heap := h, toks := tk } := by
  intro left
  induction left with
  | zero =>
    intro i h tk c acc as e S kp hL ha hl g hs
    refine codeAny_builtin PySem.F.entry_extend_loop ?_
    rw [Around.under_plainId PySem.F.plain_extend_loop _]
    refine wpAny_bind (zip_over (s := { s with heap := h, toks := tk }) (A := A.in1) hh D S (Array.getElem?_eq_none (by omega)) fun h' k => ?_)
    refine wpAny_pure (hR h' tk acc c as (fun b o b1 b2 b3 b4 b5 q => k b o b2 b3 b4 b5 (kp b o b1 b2 b3 b4 b5 q)) (k L _ n1 n3 n4 n5 hL) (by omega) ⟨g.rise, g.low, fun j a hj => ?_⟩ ha)
    obtain ⟨x, y, hx, hy, hp⟩ := g.at_ j a hj
    have lt := g.low a (List.mem_of_getElem? hj)
    exact ⟨x, y, hx, hy, k a _ (Nat.ne_of_gt (Nat.lt_of_le_of_lt o2 lt)) (Nat.ne_of_gt (Nat.lt_of_le_of_lt o3 lt)) (Nat.ne_of_gt (Nat.lt_of_le_of_lt o4 lt)) (Nat.ne_of_gt (Nat.lt_of_le_of_lt o5 lt)) hp⟩
  | succ left ih =>
    intro i h tk c acc as e S kp hL ha hl g hs
    have hi : i < xs.size := by omega
    have hi2 : i < ys.size := by omega
    have sz : acc.size = i := by rw [← Array.length_toList, ha, List.length_map, hl]
    refine codeAny_builtin PySem.F.entry_extend_loop ?_
    rw [Around.under_plainId PySem.F.plain_extend_loop _]
    refine wpAny_bind (zip_turn (s := { s with heap := h, toks := tk }) D S (Array.getElem?_eq_getElem hi) (Array.getElem?_eq_getElem hi2) fun h' S' hp hz' k => ?_)
    dsimp only at hp hz' k ⊢
    have hL' := k L _ n1 n3 n4 n5 hL
    have off : ∀ b o, b ≠ L → h'.get? b = some o → (h'.update L (Obj.mapSeq (·.push (Value.ref h.objs.size)))).get? b = some o := fun b o nb q => (Heap.get?_update_other _ _ (Ne.symm nb)).trans q
    have ltL : L < h.objs.size := Nat.lt_of_le_of_lt o1 hs
    have nw : h.objs.size ≠ L := Nat.ne_of_gt ltL
    show wpAny _ A.in1 (updateSeq L (·.push (Value.ref h.objs.size)) >>= _) _ _ _
    refine wpAny_bind (wpAny_updateSeq hL' rfl (wpAny_pure ⟨plainId_quiet PySem.F.plain_extend_loop _, ih (i + 1) _ tk _ (acc.push (Value.ref h.objs.size)) (as ++ [h.objs.size]) (by omega) ⟨?_, off _ _ n2.symm S'.ti, ?_, ?_, isl_at S'.b1 fun o q => off _ _ n6 q, isl_at S'.b2 fun o q => off _ _ n7 q⟩
      (fun b o b1 b2 b3 b4 b5 q => off b o b1 (k b o b2 b3 b4 b5 (kp b o b1 b2 b3 b4 b5 q))) (Heap.get?_update_self _ hL' rfl) (by rw [Array.toList_push, ha, List.map_append]; rfl) (by rw [List.length_append, hl]; rfl) ⟨?_, ?_, ?_⟩ ?_⟩) (by rw [sz]; omega) (by show (acc.push (Value.ref h.objs.size)).size ≤ sizeLine + 1; rw [Array.size_push, sz]; omega))
    · rcases S'.z with ⟨q, a, b, q2⟩ | ⟨T, f, oT, q, q2⟩
      · exact .inl ⟨off _ _ n1.symm q, a, b, off _ _ n3.symm q2⟩
      · by_cases eT : T = L
        · exact .inr ⟨T, f, _, off _ _ n1.symm q, by rw [eT]; exact Heap.get?_update_self _ hL' rfl⟩
        · exact .inr ⟨T, f, oT, off _ _ n1.symm q, off _ _ eT q2⟩
    · exact S'.a1.at fun o q => off _ _ n4.symm q
    · exact S'.a2.at fun o q => off _ _ n5.symm q
    · refine List.pairwise_append.mpr ⟨g.rise, List.pairwise_singleton _ _, fun a ha b hb => ?_⟩
      rw [List.mem_singleton.mp hb]
      obtain ⟨j, hj⟩ := List.mem_iff_getElem?.mp ha
      obtain ⟨x, y, _, _, q⟩ := g.at_ j a hj
      exact Heap.lt_size q
    · intro a ha
      rcases List.mem_append.mp ha with ha | ha
      · exact g.low a ha
      · rw [List.mem_singleton.mp ha]
        exact hs
    · intro j a hj
      by_cases q : j < as.length
      · rw [List.getElem?_append_left q] at hj
        obtain ⟨x, y, hx, hy, hp'⟩ := g.at_ j a hj
        have lt := g.low a (List.mem_of_getElem? hj)
        exact ⟨x, y, hx, hy, off _ _ (Nat.ne_of_gt (Nat.lt_of_le_of_lt o1 lt)) (k a _ (Nat.ne_of_gt (Nat.lt_of_le_of_lt o2 lt)) (Nat.ne_of_gt (Nat.lt_of_le_of_lt o3 lt)) (Nat.ne_of_gt (Nat.lt_of_le_of_lt o4 lt)) (Nat.ne_of_gt (Nat.lt_of_le_of_lt o5 lt)) hp')⟩
      · rw [List.getElem?_append_right (by omega)] at hj
        have ej : j = as.length := by
          have := (List.getElem?_eq_some_iff.mp hj).1
          rw [List.length_singleton] at this
          omega
        subst ej
        rw [Nat.sub_self] at hj
        have ea : h.objs.size = a := Option.some.inj hj
        subst ea
        rw [hl]
        exact ⟨_, _, Array.getElem?_eq_getElem hi, Array.getElem?_eq_getElem hi2, off _ _ nw hp⟩
    · have q : (h'.update L (Obj.mapSeq (·.push (Value.ref h.objs.size)))).get? h.objs.size = _ := off _ _ nw hp
      exact Nat.lt_trans hs (Heap.lt_size q)
end
theorem zip_no_len : typeLookup (.type "zip") "__len__" = pure none := by rw [typeLookup_type, builtinLookup_eq_fast]; kernel_rfl
theorem zip_no_hint : typeLookup (.type "zip") "__length_hint__" = pure none := by rw [typeLookup_type, builtinLookup_eq_fast]; kernel_rfl
section
variable {prog : Program} {w : World} {A : Around} {E : Value → Shared → Prop} {s : Shared} {z TI TO i1 i2 l1 l2 : Addr} {xs ys : Array Value}
theorem ZipSt.at {h h' : Heap} {i : Nat} (S : ZipSt h z TI TO i1 i2 l1 l2 xs ys i) {L : Addr} {o1 : Obj} (hl : h'.get? L = some o1) (k : ∀ b o, b ≠ L → h.get? b = some o → h'.get? b = some o) (n1 : z ≠ L) (n2 : TI ≠ L) (n3 : TO ≠ L) (n4 : i1 ≠ L) (n5 : i2 ≠ L) (n6 : l1 ≠ L) (n7 : l2 ≠ L) : ZipSt h' z TI TO i1 i2 l1 l2 xs ys i := by
  refine ⟨?_, k _ _ n2 S.ti, S.a1.at fun o q => k _ _ n4 q, S.a2.at fun o q => k _ _ n5 q, isl_at S.b1 fun o q => k _ _ n6 q, isl_at S.b2 fun o q => k _ _ n7 q⟩
  rcases S.z with ⟨q, a, b, q2⟩ | ⟨T, f, oT, q, q2⟩
  · exact .inl ⟨k _ _ n1 q, a, b, k _ _ n3 q2⟩
  · by_cases e : T = L
    · exact .inr ⟨T, f, o1, k _ _ n1 q, by rw [e]; exact hl⟩
    · exact .inr ⟨T, f, oT, k _ _ n1 q, k _ _ e q2⟩
theorem call_list_zip {Q : Value → Shared → Prop} (hh : A.handled = none) (D : ZipApart z TI TO i1 i2 l1 l2) (S : ZipSt s.heap z TI TO i1 i2 l1 l2 xs ys 0) (hz : s.heap.get? z = some { cls := .type "zip", dict := none, data := .fields #[.none, .bool false, .bool false, .ref TI, .ref TO], slots := #[] })
    (b1 : z < s.heap.objs.size) (b2 : TI < s.heap.objs.size) (b3 : TO < s.heap.objs.size) (b4 : i1 < s.heap.objs.size) (b5 : i2 < s.heap.objs.size) (b6 : l1 < s.heap.objs.size) (b7 : l2 < s.heap.objs.size) (hn : xs.size = ys.size) (hl : xs.size ≤ sizeLine)
    (hQ : ∀ h' tk acc c as, KeepZ s.heap.objs.size z TO i1 i2 s.heap h' → h'.get? s.heap.objs.size = some (lstO acc c) → as.length = xs.size → Prs xs ys s.heap.objs.size h' as → acc.toList = as.map Value.ref → Q (.ref s.heap.objs.size) { s with heap := h', toks := tk }) :
    wpAny (model prog w) A (call (.type "list") [.ref z]) Q E s := by
  obtain ⟨L, hL⟩ : ∃ L, L = s.heap.objs.size := ⟨_, rfl⟩
  have c1 : z ≠ L := by rw [hL]; exact Nat.ne_of_lt b1
  have c2 : TI ≠ L := by rw [hL]; exact Nat.ne_of_lt b2
  have c3 : TO ≠ L := by rw [hL]; exact Nat.ne_of_lt b3
  have c4 : i1 ≠ L := by rw [hL]; exact Nat.ne_of_lt b4
  have c5 : i2 ≠ L := by rw [hL]; exact Nat.ne_of_lt b5
  have c6 : l1 ≠ L := by rw [hL]; exact Nat.ne_of_lt b6
  have c7 : l2 ≠ L := by rw [hL]; exact Nat.ne_of_lt b7
  refine callType_codes (Q₁ := fun obj t => obj = .ref s.heap.objs.size ∧ t = { s with heap := s.heap.push { cls := .type "list", data := .seq #[] } }) PySem.F.called_list (PySem.F.typeCall_list_1 _) PySem.F.entry_list_init
    (code_list_new _ ⟨rfl, rfl⟩) fun obj t ht => ?_
  obtain ⟨rfl, rfl⟩ := ht
  rw [← hL] at hQ ⊢
  have g0 : (s.heap.push { cls := .type "list", data := .seq #[] }).get? L = some { cls := .type "list", data := .seq #[] } := by rw [hL]; exact Heap.get?_push_size _ rfl
  have p0 : ∀ b o, s.heap.get? b = some o → (s.heap.push { cls := .type "list", data := .seq #[] }).get? b = some o := fun b o e => Heap.get?_push_of_some _ e
  refine ⟨⟨_, g0, rfl⟩, PySem.F.args_list_init_2 _ _, ?_⟩
  generalize s.heap.push { cls := .type "list", data := .seq #[] } = h0 at g0 p0 ⊢
  show wpAny _ _ (do let old ← Builtin.List.listItems (.ref L); Builtin.List.listUpdate (.ref L) (fun _ => #[]); letGo old.toList.reverse; Builtin.List.listExtendWith (.ref L) (.ref z) .none) _ _ _
  refine wpAny_bind ?_
  unfold Builtin.List.listItems
  refine wpAny_bind (wpAny_seqItems g0 rfl (wpAny_pure ?_))
  show wpAny _ _ (updateSeq L (fun _ => #[]) >>= fun _ => letGo (#[] : Array Value).toList.reverse >>= fun _ => Builtin.List.listExtendWith (.ref L) (.ref z) .none) _ _ _
  refine wpAny_bind (wpAny_updateSeq g0 rfl ?_)
  have g1 := Heap.get?_update_self (Obj.mapSeq (fun _ => (#[] : Array Value))) g0 rfl
  have p1 : ∀ b o, b ≠ L → s.heap.get? b = some o → (h0.update L (Obj.mapSeq (fun _ => (#[] : Array Value)))).get? b = some o := fun b o n e => (Heap.get?_update_other _ _ (Ne.symm n)).trans (p0 b o e)
  generalize h0.update L (Obj.mapSeq (fun _ => (#[] : Array Value))) = h1 at g1 p1 ⊢
  refine wpAny_bind (wpAny_letGo ?_)
  have z1 := p1 z _ c1 hz
  unfold Builtin.List.listExtendWith
  refine wpAny_bind (wpAny_typeOf (T := "zip") ⟨_, z1, rfl⟩ ?_)
  have d1 : Builtin.List.listSameRef (.ref L) (.ref z) = false := by simp [Builtin.List.listSameRef, c1.symm]
  have d2 : (Value.type "zip" == Value.type "list") = false := by decide
  have d3 : (Value.type "zip" == Value.type "tuple") = false := by decide
  simp only [d1, d2, d3, Bool.or_false, Bool.false_eq_true, if_false]
  refine wpAny_bind (wpAny_pyIter_zip (f0 := .none) z1 ?_)
  refine wpAny_bind (wpAny_holding ?_)
  unfold Builtin.List.listLengthHint
  refine wpAny_bind (wpAny_specialOf (T := "zip") ⟨_, z1, rfl⟩ zip_no_len ?_)
  show wpAny _ _ (specialOf (Value.ref z) (Str.ofString "__length_hint__") >>= _) _ _ _
  refine wpAny_bind (wpAny_specialOf (T := "zip") ⟨_, z1, rfl⟩ zip_no_hint ?_)
  refine wpAny_pure ?_
  show wpAny _ _ (rule "list.extend.makes-room" >>= fun _ => Builtin.List.listTouch (.ref L) >>= fun _ => again (.builtin "list.extend.loop" ⟨[.ref L, .ref z, .none], []⟩)) _ _ _
  refine wpAny_bind (wpAny_rule ?_)
  refine wpAny_bind ?_
  show wpAny _ _ (updateSeq L (·.push .none) >>= fun _ => updateSeq L (·.pop)) _ _ _
  refine wpAny_bind (wpAny_updateSeq g1 rfl ?_)
  have g2 := Heap.get?_update_self (Obj.mapSeq (·.push Value.none)) g1 rfl
  refine wpAny_updateSeq (hz := by seq_fits) g2 rfl ?_
  have g3 := Heap.get?_update_self (Obj.mapSeq (·.pop)) g2 rfl
  have p3 : ∀ b o, b ≠ L → s.heap.get? b = some o → ((h1.update L (Obj.mapSeq (·.push Value.none))).update L (Obj.mapSeq (·.pop))).get? b = some o :=
    fun b o n e => (Heap.get?_update_other _ _ (Ne.symm n)).trans ((Heap.get?_update_other _ _ (Ne.symm n)).trans (p1 b o n e))
  generalize ((h1.update L (Obj.mapSeq (·.push Value.none))).update L (Obj.mapSeq (·.pop))) = h3 at g3 p3 ⊢
  have low : ∀ b, b < s.heap.objs.size → b ≤ L := fun b h => by rw [hL]; exact Nat.le_of_lt h
  refine wpAny_pure ⟨plainId_quiet PySem.F.plain_extend_loop _, zip_loop (s := s) (h₀ := s.heap) (lo := L) (by simp [hh]) D c1.symm c2.symm c3.symm c4.symm c5.symm c6 c7 (Nat.le_refl _) (low _ b1) (low _ b3) (low _ b4) (low _ b5) hn hl .none (fun h' tk acc c as kp g' la gp ha => ?_) xs.size 0 h3 _ _ #[] [] (Nat.zero_add _) (S.at g3 p3 c1 c2 c3 c4 c5 c6 c7) (fun b o n _ _ _ _ e => p3 b o n e) g3 rfl rfl ⟨List.Pairwise.nil, (fun _ h => nomatch h), fun j a h => by simp at h⟩ (Heap.lt_size g3)⟩
  exact ⟨rfl, hQ h' tk acc c as kp g' la gp ha⟩
end
/-! the rule -/
def rListZip (K : PySem.W.Frag) : List V → Hp → VK → Prop := fun vs H Q => ∃ (a b : Addr) (kvs : List (Key × V)), vs = [.ref a, .ref b] ∧ SqL K H a (kvs.map fun p => kV p.1) ∧ SqL K H b (kvs.map (·.2)) ∧ kvs.length ≤ 4000 ∧
  ∀ (H' : Hp) (p : Addr) (ts : List Addr), (∀ b o, H b = some o → H' b = some o) → H p = none → (∀ t ∈ ts, H t = none) → p ∉ ts → H' p = some (.lst (ts.map V.ref)) → Paired (fun (t : Addr) (q : Key × V) => H' t = some (.tup [kV q.1, q.2])) ts kvs → Q (.ref p) H'
def tListZip (K : PySem.W.Frag) (t : TA) : TE := fun σ H Q => t σ H fun vs H1 => rListZip K vs H1 Q
theorem key_val : ∀ (k : Key) (v : Value), RelV (kV k) v → keyIs k v = true
  | .inl i, v, ⟨t, e⟩ => by rw [e]; simp [keyIs, Value.isInt]
  | .inr x, v, ⟨t, e⟩ => by rw [e]; simp [keyIs, Value.isStrOf]
theorem zip_kv : ∀ {kvs : List (Key × V)} {xs ys : List Value}, Vals (kvs.map fun p => kV p.1) xs → Vals (kvs.map (·.2)) ys → ∃ vs : List (Key × Value), KV kvs vs ∧ vs.length = xs.length ∧ ys.length = xs.length ∧ ∀ (j : Nat) (x y : Value), xs[j]? = some x → ys[j]? = some y → ∃ k, vs[j]? = some (k, y) ∧ keyIs k x = true
  | [], _, _, .nil, .nil => ⟨[], .nil, rfl, rfl, fun j x y h => by simp at h⟩
  | p :: kvs, _, _, .cons h1 r1, .cons h2 r2 => by
    obtain ⟨vs, k1, k2, k3, k4⟩ := zip_kv r1 r2
    refine ⟨(p.1, _) :: vs, .cons ⟨rfl, h2⟩ k1, by rw [List.length_cons, k2]; rfl, by rw [List.length_cons, k3]; rfl, fun j x y hx hy => ?_⟩
    cases j with
    | zero =>
      cases hx
      cases hy
      exact ⟨p.1, rfl, key_val _ _ h1⟩
    | succ j => exact k4 j x y hx hy
section
variable {X : Cx}
/-- a list and its pairs, new, come to be known -/
theorem pairs_laid {pins : List (Addr × Obj)} {σ : L2.St} {H : Hp} {s : Shared} {h' : Heap} {tk : Nat} {kvs : List (Key × V)} {vs : List (Key × Value)} {acc : Array Value} {c : Nat} {as : List Addr} {L : Addr} (I : Inv X pins σ H s) (hL : s.heap.objs.size ≤ L) (hz : kvs.length ≤ sizeLine) (kv : KV kvs vs)
    (hk : ∀ b o, s.heap.get? b = some o → h'.get? b = some o) (hS : h'.get? L = some (lstO acc c)) (hl : as.length = vs.length) (rise : as.Pairwise (· < ·)) (above : ∀ a ∈ as, L < a)
    (hG : ∀ (j : Nat) (a : Addr), as[j]? = some a → ∃ key k x, vs[j]? = some (k, x) ∧ keyIs k key = true ∧ h'.get? a = some { cls := .type "tuple", data := .seq #[key, x] }) (hacc : acc.toList = as.map Value.ref) :
    ∃ H' : Hp, (∀ b o, H b = some o → H' b = some o) ∧ H L = none ∧ (∀ t ∈ as, H t = none) ∧ L ∉ as ∧ H' L = some (.lst (as.map V.ref)) ∧ Paired (fun (t : Addr) (q : Key × V) => H' t = some (.tup [kV q.1, q.2])) as kvs ∧ Inv X pins σ H' { s with heap := h', toks := tk } := by
  have lk : kvs.length = vs.length := Paired.length kv
  have outL : L ∉ as := fun m => Nat.lt_irrefl _ (above _ m)
  have nd : as.Nodup := rise.imp fun {a b} (h : a < b) => Nat.ne_of_lt h
  have newA : ∀ t ∈ as, H t = none := fun t m => I.hok.fresh (Nat.le_trans hL (Nat.le_of_lt (above t m)))
  have newL : H L = none := I.hok.fresh hL
  obtain ⟨G, hGd⟩ : ∃ G, G = LiI.putT (upd H L (.lst (as.map V.ref))) as kvs := ⟨_, rfl⟩
  have atP : Paired (fun (t : Addr) (p : Key × V) => G t = some (.tup [kV p.1, p.2])) as kvs := by rw [hGd]; exact LiI.putT_at as kvs _ (by omega) nd
  have eL : G L = some (.lst (as.map V.ref)) := by rw [hGd, LiI.putT_off as kvs _ outL, upd_same]
  have off : ∀ b, b ∉ as → b ≠ L → G b = H b := fun b h1 h2 => by rw [hGd, LiI.putT_off as kvs _ h1, upd_ne h2]
  have keep : ∀ b u, H b = some u → G b = some u := fun b u e => (off b (fun m => by rw [newA b m] at e; cases e) (fun q => by rw [q, newL] at e; cases e)).trans e
  have old : ∀ b o, s.heap.get? b = some o → b ∉ as ∧ b ≠ L := fun b o e => by
    have lt := Heap.lt_size e
    exact ⟨fun m => Nat.lt_irrefl _ (Nat.lt_of_lt_of_le (Nat.lt_trans (Nat.lt_of_lt_of_le lt hL) (above b m)) (Nat.le_refl _)), Nat.ne_of_lt (Nat.lt_of_lt_of_le lt hL)⟩
  refine ⟨G, keep, newL, newA, outL, eL, atP, ?_⟩
  refine I.call' (ch := []) rfl ⟨fun b o q _ _ _ => hk b o q, fun b o q _ _ _ => ⟨o.slots, hk b o q⟩, fun b o q n _ => ?_, fun b o q _ => ⟨o, hk b o q⟩, fun b xs q => keep b _ q, fun b o u q => keep b _ q, fun b ps q => ⟨#[], by rw [keep b _ q]; simp⟩⟩ (fun b u q => ?_) I.bare fun b z => by simp at z
  · rw [off b (old b o q).1 (old b o q).2]
    exact n
  · by_cases m : b ∈ as
    · obtain ⟨j, pk, e1, e2, e3⟩ := LiI.paired_ix atP m
      rw [e3] at q
      cases q
      obtain ⟨key, k, x, f1, f2, f3⟩ := hG j b e1
      obtain ⟨qv, g1, g2, g3⟩ := LiI.paired_get kv e2
      rw [f1] at g1
      cases g1
      have rk : RelV (kV pk.1) key := by
        rw [g2]
        exact relV_key f2
      exact ⟨by show 2 ≤ sizeLine; decide, [key, x], .cons rk (.cons g3 .nil), ⟨_, f3, rfl, _, rfl⟩⟩
    · by_cases m2 : b = L
      · rw [m2] at q ⊢
        rw [eL] at q
        cases q
        refine ⟨by rw [List.length_map]; omega, acc.toList, c, by rw [hacc]; exact LiI.vals_refs as, ?_⟩
        rw [Array.toArray_toList]
        exact hS
      · rw [off b m m2] at q
        exact (I.hok b u q).stay (fun d v _ y => hk d v y) (fun d y => keep d _ y) fun d xs y => keep d _ y
theorem pe_listZip {e e2 : Expr} {t : TA} {p p2 q pos : Pos} (hg : Gl X "list") (hm : X.mg "list" = none) (hg2 : Gl X "zip") (hm2 : X.mg "zip" = none) (ha : PA X [e, e2] t) (hc : X.calm = true := by rfl)
    (hs : starEach [e, e2] X.env = (false, eval e X.env) :: starEach [e2] X.env := by rfl) (hpl : (backTo q (starEach [e2] X.env)).any (·.1) = false := by rfl) :
    PE X (.Call (.Name "list" p) [.Call (.Name "zip" p2) [e, e2] [] q] [] pos) (tListZip X.K t) := by
  refine ⟨fun pins s σ H Z I h => ?_⟩
  refine Call_ (ld_blt I hg hm (by decide +kernel : bootBuiltins "list" = some (.type "list")) ?_)
  refine PyProof.Rows.callWith_type1 (PyProof.Rows.args_cons ?_ rfl) rfl rfl
  refine Call_ (ld_blt I hg2 hm2 PyProof.Rows.boot_zip (PyProof.Rows.callWith_type1 (thn (ha.run q pins s σ H _ I h) fun us s1 ⟨vs, H1, I1, r1, q1⟩ => ?_) hs hpl))
  obtain ⟨a, b, kvs, rfl, ha1, hb1, hle, q1⟩ := q1
  cases r1 with
  | cons ra rr =>
  cases rr with
  | cons rb rr =>
  cases rr
  cases ra
  cases rb
  obtain ⟨its, rv, pa, _⟩ := I1.list ha1
  obtain ⟨its2, rv2, pb, _⟩ := I1.list hb1
  have la : a < s1.heap.objs.size := pa.lt
  have lb : b < s1.heap.objs.size := pb.lt
  obtain ⟨ws, kv, w1, w2, w3⟩ := zip_kv rv rv2
  have hlen : its.length = kvs.length := by rw [← rv.length, List.length_map]
  have sl : (4000 : Nat) ≤ sizeLine := by decide
  refine call_zip_2 pa.isList pb.isList fun h' hz hTI hTO h1 h2 hsz hk => PyProof.Rows.args_nil ?_
  have D := PySem.W.ktu_apart s1.heap.objs.size a b la lb
  refine call_list_zip (s := { s1 with heap := h' }) (I1.ok.hd hc) D ⟨.inl ⟨hz, _, _, hTO⟩, hTI, h1, h2, isl_at pa.isList fun o e => hk _ o e, isl_at pb.isList fun o e => hk _ o e⟩ hz (by show _ < h'.objs.size; rw [hsz]; omega) (by show _ < h'.objs.size; rw [hsz]; omega) (by show _ < h'.objs.size; rw [hsz]; omega) (by show _ < h'.objs.size; rw [hsz]; omega) (by show _ < h'.objs.size; rw [hsz]; omega) (by show _ < h'.objs.size; rw [hsz]; exact Nat.lt_of_lt_of_le la (Nat.le_add_right _ _)) (by show _ < h'.objs.size; rw [hsz]; exact Nat.lt_of_lt_of_le lb (Nat.le_add_right _ _))
    (by rw [List.size_toArray, List.size_toArray, w2]) (by rw [List.size_toArray, hlen]; omega) fun h3 tk acc c as kp gL la' gp ha' => ?_
  have kp0 : ∀ b o, s1.heap.get? b = some o → h3.get? b = some o := fun b o e => by
    have lt := Heap.lt_size e
    have far : ∀ n, b ≠ s1.heap.objs.size + n := fun n => Nat.ne_of_lt (Nat.lt_of_lt_of_le lt (Nat.le_add_right _ _))
    exact kp b o (by show b ≠ h'.objs.size; rw [hsz]; exact far 5) (far 4) (far 3) (far 0) (far 1) (hk b o e)
  obtain ⟨H', k1, k2, k3, k4, k5, k6, J⟩ := pairs_laid (tk := tk) (L := h'.objs.size) I1 (by rw [hsz]; omega) (by omega) kv kp0 gL (by rw [la', List.size_toArray, w1]) gp.rise gp.low (fun j x hj => by
    obtain ⟨x1, y1, e1, e2, e3⟩ := gp.at_ j x hj
    obtain ⟨k, f1, f2⟩ := w3 j x1 y1 (by simpa using e1) (by simpa using e2)
    exact ⟨x1, k, y1, f1, f2, e3⟩) ha'
  exact ⟨.ref _, H', J, rfl, q1 H' _ as k1 k2 k3 k4 k5 k6⟩
end
end R
namespace W
open PySem PySem.Spec PyProof.Rows L2 R
def topS (i : Nat) : Stmt := PySem.Challenge.pw_rowlent_k44_two_hands_by_turns.main.body.getD i (.Pass ⟨0, 0, 0, 0⟩)

structure Ad where
  LentError : Addr
  NoMoment : Addr
  NoHand : Addr
  NoLoan : Addr
  NoApart : Addr
  Hand : Addr

structure Txt (K : PySem.W.Frag) (mg : Str → Option Value) (c : Ad) : Prop where
  m_all : mg "all" = none
  m_isinstance : mg "isinstance" = none
  m_str : mg "str" = none
  m_len : mg "len" = none
  m_int : mg "int" = none
  m_bool : mg "bool" = none
  m_max : mg "max" = none
  m_sorted : mg "sorted" = none
  m_range : mg "range" = none
  m_list : mg "list" = none
  m_min : mg "min" = none
  m_zip : mg "zip" = none
  g_MOST_LETTERS : GlV mg "MOST_LETTERS" (.int 8)
  g_LETTERS : GlV mg "LETTERS" (.str "abcdefghijklmnopqrstuvwxyz")
  g_MOST_APART : GlV mg "MOST_APART" (.int 1000000)
  x_LentError : Exc K mg "LentError" c.LentError
  x_NoMoment : Exc K mg "NoMoment" c.NoMoment
  x_NoHand : Exc K mg "NoHand" c.NoHand
  x_NoLoan : Exc K mg "NoLoan" c.NoLoan
  x_NoApart : Exc K mg "NoApart" c.NoApart
  u_NoLoan_LentError : PySem.W.subIn K (.ref c.NoLoan) (.ref c.LentError) = some true
  u_NoLoan_NoLoan : PySem.W.subIn K (.ref c.NoLoan) (.ref c.NoLoan) = some true
  u_NoLoan_NoMoment : PySem.W.subIn K (.ref c.NoLoan) (.ref c.NoMoment) = some false
  o_Hand : OwnC K mg "Hand" c.Hand
  i_Hand : MkAt K mg "Hand" c.Hand "Hand.__init__" (inClass (topS 15) 0) ["self", "name", "apart"]
  m_Hand_hears : MtAt K c.Hand "hears" "Hand.hears" (inClass (topS 15) 1) ["self", "loan", "end"]
  m_Hand_end_of : MtAt K c.Hand "end_of" "Hand.end_of" (inClass (topS 15) 2) ["self", "loan"]
  m_Hand_forgets : MtAt K c.Hand "forgets" "Hand.forgets" (inClass (topS 15) 3) ["self", "loan"]
  m_Hand_surely_out : MtAt K c.Hand "surely_out" "Hand.surely_out" (inClass (topS 15) 4) ["self", "clock", "loan"]
  m_Hand_surely_over : MtAt K c.Hand "surely_over" "Hand.surely_over" (inClass (topS 15) 5) ["self", "clock", "loan"]
  m_Hand_left : MtAt K c.Hand "left" "Hand.left" (inClass (topS 15) 6) ["self", "clock", "loan"]
  m_Hand_tells : MtAt K c.Hand "tells" "Hand.tells" (inClass (topS 15) 7) ["self", "clock"]
  m_Hand_soonest : MtAt K c.Hand "soonest" "Hand.soonest" (inClass (topS 15) 8) ["self"]
  n_Hand_name : NoAttr K c.Hand "name"
  n_Hand_apart : NoAttr K c.Hand "apart"
  n_Hand_kept : NoAttr K c.Hand "kept"
  f_is_name : FnAt K mg "is_name" "is_name" (topS 9) ["thing"]
  f_is_whole : FnAt K mg "is_whole" "is_whole" (topS 10) ["thing", "low", "high"]
  f_is_count : FnAt K mg "is_count" "is_count" (topS 11) ["thing"]
  f_sure_clock : FnAt K mg "sure_clock" "sure_clock" (topS 14) ["clock"]
  f__law_cell_at : FnAt K mg "_law_cell_at" "_law_cell_at" (topS 17) ["_law_script", "_law_k"]
  f__law_state : FnAt K mg "_law_state" "_law_state" (topS 18) ["_law_cell", "_law_k"]
  f__law_mixed : FnAt K mg "_law_mixed" "_law_mixed" (topS 19) ["_law_number"]
  f__law_digit : FnAt K mg "_law_digit" "_law_digit" (topS 20) ["_law_state_here", "_law_base"]
  f__law_name : FnAt K mg "_law_name" "_law_name" (topS 21) ["_law_state_here"]
  f__law_apart : FnAt K mg "_law_apart" "_law_apart" (topS 22) ["_law_state_here"]
  f__law_end : FnAt K mg "_law_end" "_law_end" (topS 23) ["_law_state_here", "_law_base"]
  f__law_loans : FnAt K mg "_law_loans" "_law_loans" (topS 24) ["_law_state_here"]
  f__law_told : FnAt K mg "_law_told" "_law_told" (topS 25) ["_law_hand", "_law_loan", "_law_clock"]
  f__law_due : FnAt K mg "_law_due" "_law_due" (topS 26) ["_law_own", "_law_loan", "_law_clock"]
  f__law_lists_right : FnAt K mg "_law_lists_right" "_law_lists_right" (topS 27) ["_law_hand", "_law_own", "_law_clock"]
  f__law_step : FnAt K mg "_law_step" "_law_step" (topS 28) ["_law_hand", "_law_own", "_law_forgets", "_law_loan", "_law_end_here"]

def cs_Hand (c : Ad) (C : Addr) : Prop := C = c.Hand
theorem okc_Hand {K : PySem.W.Frag} {mg : Str → Option Value} {c : Ad} (T : Txt K mg c) : ∀ C, cs_Hand c C → Cls K C := fun C h => by
  have e : C = c.Hand := h
  subst e
  exact T.o_Hand.cl

abbrev lets : List Nat := ("abcdefghijklmnopqrstuvwxyz" : Str).cps.toList
def isNameB : V → Bool
  | .str z => decide (1 ≤ (z.length : Int)) && decide ((z.length : Int) ≤ 8) && z.cps.toList.all fun c => decide (c ∈ lets)
  | _ => false
def isWholeB : V → Int → Int → Bool
  | .int n, a, b => decide (a ≤ n) && decide (n ≤ b)
  | _, _, _ => false
def Short (v : V) : Prop := ∀ z, v = .str z → z.length ≤ 1000000 ∧ sOk z

abbrev s_is_name : Stmt := topS 9
abbrev N_is_name : List Str := ["thing", "sign"]
theorem sc_is_name : FnScope N_is_name ["thing"] (defScope s_is_name) := ⟨rfl, rfl, rfl, by decide +kernel, rfl, by decide +kernel, by decide +kernel⟩
def sp_is_name (K : PySem.W.Frag) (c : Ad) : Sp := fun vs H Q E => arg1 (fun v => Kn K H v ∧ Short v ∧ Wf H ∧ Q (.bl (isNameB v)) H) vs
theorem ok_is_name {P : Program} {w : World} {K : PySem.W.Frag} {mg : Str → Option Value} {base : Heap} {c : Ad} (T : Txt K mg c) : Ok P w K mg base 1 "is_name" ["thing"] (sp_is_name K c) := by
  refine okF T.f_is_name sc_is_name (fun vs H Q E h => ?_) (fun f cdv A outer sh H vs Q E hr h => ?_)
  · obtain ⟨v, rfl, h⟩ := arg1.ex h
    rfl
  · obtain ⟨v, rfl, h⟩ := arg1.ex h
    have tk : L2N.Takes (cxOf (L2N.CX P w) P w K mg base N_is_name "is_name" (defScope s_is_name) f cdv A outer sh H (bE H E)) (fun cls d _ H' => bE H E cls d H') := L2N.takes_of rfl rfl rfl rfl
    refine ⟨_, pss_cons (ps_if (PW.pt (pw_or (pt_not (pt_truthU (K := K) (pe_callB (callU_isi (K := K)) (by rfl) T.m_isinstance (by decide +kernel) (pa_cons (lv 0) (pa_cons (pe_ty "str" T.m_str) pa_nil))) (by intro _; rfl))) (pw_or1 (pt_not (pt_chainU opU_le opU_le pe_int (pe_callB (callU_len (K := K)) (by rfl) T.m_len (by decide +kernel) (pa_cons (lv 0) pa_nil)) (pe_g T.g_MOST_LETTERS))))))
      (pss_one (ps_ret pe_bl)) pss_nil)
      (pss_one (ps_ret (pe_callB (callU_all (K := K) rfl) (by rfl) T.m_all (by decide +kernel) (pa_cons (pe_lc (own := [("sign", 1)]) (g := gName 1) rfl sc_is_name.nd (pi_str (lv 0)) (blkOk_by (own := [("sign", 1)]) (N := N_is_name) (sc := defScope s_is_name) (by decide +kernel)) (fun _ _ _ _ _ => pg_name (i := 1) sc_is_name.nd rfl (.inl rfl)) (fun _ _ _ _ _ => pts_nil) (fun _ _ _ _ _ => pe_cmpR (opU_in (K := K)) (lv 1) (pe_g T.g_LETTERS) (by rfl))) pa_nil)))), ?_⟩
    obtain ⟨hk, hz, wf, k⟩ := h
    refine ⟨_, isk_str hk, ?_⟩
    cases v with
    | str z =>
      refine ⟨line_of (Nat.le_trans ((hz z rfl).1) (by decide)), ?_⟩
      refine iteC (p := 1 ≤ (z.length : Int)) (fun h1 => ?_) (fun h1 => ?_)
      · refine iteB (fun h2' => ?_) (fun h2' => ?_)
        · have h2 := nd_t h2'
          refine bQ.same wf (Same.refl _) ?_
          have e2 : isNameB (.str z) = false := by
            show (decide (1 ≤ (z.length : Int)) && decide ((z.length : Int) ≤ 8) && _) = _
            rw [decide_eq_false h2, Bool.and_false, Bool.false_and]
          rw [← e2]
          exact k
        · have h2 := nd_f h2'
          refine ⟨z, rfl, fun D nD => ?_⟩
          refine lc_map (walk_str (z := z)) (fun i x => ∃ c, z.cps[i]? = some c ∧ x = .str ⟨#[c]⟩) (fun i H x H' h => h) (fun i => .bl (decide (z.cps.toList.getD i 0 ∈ lets))) (line_lt (Nat.lt_of_le_of_lt ((hz z rfl).1) (by decide))) (fun _ => trivial) (fun i x acc C hi hx hC => ?_) ?_
          · obtain ⟨c, hc, rfl⟩ := hx
            have e : z.cps.toList.getD i 0 = c := by simp [hc]
            rw [e] at hC
            refine ⟨rfl, c, rfl, ?_⟩
            simpa using hC
          · refine ⟨(List.range z.cps.size).map fun i => decide (z.cps.toList.getD i 0 ∈ lets), .inl (.inl ?_), ?_⟩
            · rw [upd_same, List.map_map]
              rfl
            · refine bQ.same wf (same_new nD) ?_
              have e : ((List.range z.cps.size).map fun i => decide (z.cps.toList.getD i 0 ∈ lets)) = z.cps.toList.map fun c => decide (c ∈ lets) := by
                rw [← R.range_getD z.cps.toList 0 fun c => decide (c ∈ lets)]
                rfl
              rw [e]
              have e2 : isNameB (.str z) = (z.cps.toList.map fun c => decide (c ∈ lets)).all id := by
                show (decide (1 ≤ (z.length : Int)) && decide ((z.length : Int) ≤ 8) && _) = _
                rw [decide_eq_true h1, decide_eq_true h2, List.all_map]
                rfl
              rw [e2] at k
              exact k
      · refine bQ.same wf (Same.refl _) ?_
        have e2 : isNameB (.str z) = false := by
          show (decide (1 ≤ (z.length : Int)) && decide ((z.length : Int) ≤ 8) && _) = _
          rw [decide_eq_false h1, Bool.false_and, Bool.false_and]
        rw [← e2]
        exact k
    | non => exact bQ.same wf (Same.refl _) k
    | bl b => exact bQ.same wf (Same.refl _) k
    | int n => exact bQ.same wf (Same.refl _) k
    | ref p => exact bQ.same wf (Same.refl _) k
    | byt b => exact hk.elim
    | flt b => exact hk.elim
    | ty b => exact hk.elim

abbrev s_is_whole : Stmt := topS 10
abbrev N_is_whole : List Str := ["thing", "low", "high"]
theorem sc_is_whole : FnScope N_is_whole ["thing", "low", "high"] (defScope s_is_whole) := ⟨rfl, rfl, rfl, by decide +kernel, rfl, by decide +kernel, by decide +kernel⟩
def sp_is_whole (K : PySem.W.Frag) (c : Ad) : Sp := fun vs H Q E => arg3 (fun v lo hi => ∃ a b, lo = .int a ∧ hi = .int b ∧ Kn K H v ∧ Wf H ∧ Q (.bl (isWholeB v a b)) H) vs
theorem ok_is_whole {P : Program} {w : World} {K : PySem.W.Frag} {mg : Str → Option Value} {base : Heap} {c : Ad} (T : Txt K mg c) : Ok P w K mg base 1 "is_whole" ["thing", "low", "high"] (sp_is_whole K c) := by
  refine okF T.f_is_whole sc_is_whole (fun vs H Q E h => ?_) (fun f cdv A outer sh H vs Q E hr h => ?_)
  · obtain ⟨v, lo, hi, rfl, h⟩ := arg3.ex h
    rfl
  · obtain ⟨v, lo, hi, rfl, h⟩ := arg3.ex h
    have tk : L2N.Takes (cxOf (L2N.CX P w) P w K mg base N_is_whole "is_whole" (defScope s_is_whole) f cdv A outer sh H (bE H E)) (fun cls d _ H' => bE H E cls d H') := L2N.takes_of rfl rfl rfl rfl
    refine ⟨_, pss_one (ps_ret (pe_andU (K := K) (pe_callB (callU_isi (K := K)) (by rfl) T.m_isinstance (by decide +kernel) (pa_cons (lv 0) (pa_cons (pe_ty "int" T.m_int) pa_nil))) (pe_andU (K := K) (pe_notU (K := K) (pe_callB (callU_isi (K := K)) (by rfl) T.m_isinstance (by decide +kernel) (pa_cons (lv 0) (pa_cons (pe_ty "bool" T.m_bool) pa_nil)))) (pe_one (pe_chainU opU_le opU_le (lv 1) (lv 0) (lv 2)))))), ?_⟩
    obtain ⟨a, b, rfl, rfl, hk, wf, k⟩ := h
    refine ⟨_, isk_int hk, ?_⟩
    cases v with
    | int n =>
      refine ⟨_, isk_bool hk, ?_⟩
      refine iteC (fun h1 => ?_) (fun h1 => ?_)
      · refine bQ.same wf (Same.refl _) ?_
        have e : isWholeB (.int n) a b = decide (n ≤ b) := by
          show (decide (a ≤ n) && decide (n ≤ b)) = _
          rw [decide_eq_true h1, Bool.true_and]
        rw [← e]
        exact k
      · refine bQ.same wf (Same.refl _) ?_
        have e : isWholeB (.int n) a b = false := by
          show (decide (a ≤ n) && decide (n ≤ b)) = _
          rw [decide_eq_false h1, Bool.false_and]
        rw [← e]
        exact k
    | bl c =>
      refine ⟨_, isk_bool hk, ?_⟩
      exact bQ.same wf (Same.refl _) k
    | str z => exact bQ.same wf (Same.refl _) k
    | non => exact bQ.same wf (Same.refl _) k
    | ref p => exact bQ.same wf (Same.refl _) k
    | byt b => exact hk.elim
    | flt b => exact hk.elim
    | ty b => exact hk.elim

def ScrL (K : PySem.W.Frag) (H : Hp) (v : V) (ns : List Int) : Prop := ∃ a, v = .ref a ∧ SqL K H a (ns.map V.int) ∧ ns.length ≤ 63
theorem mixed_b {r m : Int} (h : 0 < m) : 0 ≤ r % m ∧ r % m < m := ⟨Int.emod_nonneg _ (by omega), Int.emod_lt_of_pos _ h⟩
theorem mul_b {x y : Int} {a b : Nat} (hx0 : 0 ≤ x) (hx : x < 2 ^ a) (hy0 : 0 ≤ y) (hy : y < 2 ^ b) (h0 : 0 < a) (h1 : 0 < b) (h : a + b ≤ 1000000) : CMulW x y := by
  have e1 : (2 : Int) ^ a = ((2 ^ a : Nat) : Int) := by simp
  have e2 : (2 : Int) ^ b = ((2 ^ b : Nat) : Int) := by simp
  refine wide_mul (a := a) (b := b) ?_ ?_ h0 h1 h
  · omega
  · omega
theorem div_b {x j : Int} {b : Nat} (h : 0 < j) (hb : j.natAbs < 2 ^ b) (h0 : 0 < b) (h9 : b ≤ 9000) : CDivW x j := wide_div h hb h0 h9
/-- small enough for a digit -/
def Bas (b : Int) : Prop := 0 < b ∧ b.natAbs.log2 < 9000
theorem bas_lt {b : Int} (h : 0 < b) (h2 : b < 2 ^ 200) : Bas b := ⟨h, by
  have e : b.natAbs < 2 ^ 200 := by omega
  exact Nat.lt_trans (PySem.Flt.log2_lt_of (by decide) e) (by decide)⟩
theorem log_le {x y : Nat} (h : x ≤ y) : x.log2 ≤ y.log2 := by
  by_cases hx : x = 0
  · subst hx; simp
  · exact (Nat.le_log2 (by omega)).2 (Nat.le_trans (Nat.log2_self_le hx) h)

abbrev s__law_cell_at : Stmt := topS 17
abbrev N__law_cell_at : List Str := ["_law_script", "_law_k"]
theorem sc__law_cell_at : FnScope N__law_cell_at ["_law_script", "_law_k"] (defScope s__law_cell_at) := ⟨rfl, rfl, rfl, by decide +kernel, rfl, by decide +kernel, by decide +kernel⟩
def sp__law_cell_at (K : PySem.W.Frag) (c : Ad) : Sp := fun vs H Q E => arg2 (fun s k => ∃ ns j, ScrL K H s ns ∧ k = .int j ∧ 0 ≤ j ∧ Wf H ∧ ∀ n, Q (.int n) H) vs
theorem ok__law_cell_at {P : Program} {w : World} {K : PySem.W.Frag} {mg : Str → Option Value} {base : Heap} {c : Ad} (T : Txt K mg c) : Ok P w K mg base 1 "_law_cell_at" ["_law_script", "_law_k"] (sp__law_cell_at K c) := by
  refine okF T.f__law_cell_at sc__law_cell_at (fun vs H Q E h => ?_) (fun f cdv A outer sh H vs Q E hr h => ?_)
  · obtain ⟨s, k, rfl, h⟩ := arg2.ex h
    rfl
  · obtain ⟨s, k, rfl, h⟩ := arg2.ex h
    have tk : L2N.Takes (cxOf (L2N.CX P w) P w K mg base N__law_cell_at "_law_cell_at" (defScope s__law_cell_at) f cdv A outer sh H (bE H E)) (fun cls d _ H' => bE H E cls d H') := L2N.takes_of rfl rfl rfl rfl
    refine ⟨_, pss_cons (ps_if (pt_cmpU opU_lt (lv 1) (pe_callB (callU_len (K := K)) (by rfl) T.m_len (by decide +kernel) (pa_cons (lv 0) pa_nil)) (nomark _))
      (pss_one (ps_ret (pe_ix (ixU (K := K)) (lv 0) (lv 1) (fun _ _ => rfl)))) pss_nil)
      (pss_one (ps_ret pe_int)), ?_⟩
    obtain ⟨ns, j, ⟨a, rfl, hS, hl⟩, rfl, hj, wf, k⟩ := h
    refine .inl ⟨_, .inl hS, ?_⟩
    refine iteC (fun h1 => ?_) (fun h1 => ?_)
    · obtain ⟨v, hv, hm⟩ := at_lt hj h1
      obtain ⟨n, _, rfl⟩ := List.mem_map.mp hm
      exact ⟨_, _, .inl hS, hv, bQ.same wf (Same.refl _) (k n)⟩
    · exact bQ.same wf (Same.refl _) (k 0)

abbrev s__law_state : Stmt := topS 18
abbrev N__law_state : List Str := ["_law_cell", "_law_k"]
theorem sc__law_state : FnScope N__law_state ["_law_cell", "_law_k"] (defScope s__law_state) := ⟨rfl, rfl, rfl, by decide +kernel, rfl, by decide +kernel, by decide +kernel⟩
def sp__law_state (K : PySem.W.Frag) (c : Ad) : Sp := fun vs H Q E => arg2 (fun c k => ∃ n j, c = .int n ∧ k = .int j ∧ 0 ≤ j ∧ j < 100 ∧ Wf H ∧ ∀ p q a, H a = none → 0 ≤ p → Q (.ref a) (upd H a (stL p q))) vs
theorem ok__law_state {P : Program} {w : World} {K : PySem.W.Frag} {mg : Str → Option Value} {base : Heap} {c : Ad} (T : Txt K mg c) : Ok P w K mg base 1 "_law_state" ["_law_cell", "_law_k"] (sp__law_state K c) := by
  refine okF T.f__law_state sc__law_state (fun vs H Q E h => ?_) (fun f cdv A outer sh H vs Q E hr h => ?_)
  · obtain ⟨c, k, rfl, h⟩ := arg2.ex h
    rfl
  · obtain ⟨c, k, rfl, h⟩ := arg2.ex h
    have tk : L2N.Takes (cxOf (L2N.CX P w) P w K mg base N__law_state "_law_state" (defScope s__law_state) f cdv A outer sh H (bE H E)) (fun cls d _ H' => bE H E cls d H') := L2N.takes_of rfl rfl rfl rfl
    refine ⟨_, pss_one (ps_ret (pe_lst (pa_cons (pe_op opU_mul (lv 0) (pe_callTy callU_int (by rfl) T.m_int (by decide +kernel) (pa_cons (pe_cmpR opU_ge (lv 0) (pe_op opU_pow pe_int pe_int) (nomark _)) pa_nil))) (pa_cons (pe_op (opU_add (K := K)) (pe_op opU_mod (lv 0) pe_int) (pe_op opU_mul pe_int (lv 1))) pa_nil)))), ?_⟩
    obtain ⟨n, j, rfl, rfl, h0, h1, wf, k⟩ := h
    refine ⟨⟨by decide, by decide, by decide⟩, ?_⟩
    refine ⟨.inl (.inr (by split <;> exact ⟨by decide, by decide⟩)), ?_⟩
    refine ⟨by decide, ?_⟩
    refine ⟨.inl (.inl ⟨by decide, by decide⟩), ?_⟩
    refine ⟨line_of (show 2 ≤ 16777216 by decide), fun a na => bQ.mk (wf.new trivial na) (k _ _ a na ?_)⟩
    split
    · rename_i e
      have e2 := of_decide_eq_true e
      have e3 : (10 : Int) ^ Int.toNat 18 = 1000000000000000000 := by decide
      omega
    · omega

abbrev s__law_mixed : Stmt := topS 19
abbrev N__law_mixed : List Str := ["_law_number"]
theorem sc__law_mixed : FnScope N__law_mixed ["_law_number"] (defScope s__law_mixed) := ⟨rfl, rfl, rfl, by decide +kernel, rfl, by decide +kernel, by decide +kernel⟩
def sp__law_mixed (K : PySem.W.Frag) (c : Ad) : Sp := fun vs H Q E => arg1 (fun x => ∃ n, x = .int n ∧ Wf H ∧ ∀ r, 0 ≤ r → Q (.int r) H) vs
theorem ok__law_mixed {P : Program} {w : World} {K : PySem.W.Frag} {mg : Str → Option Value} {base : Heap} {c : Ad} (T : Txt K mg c) : Ok P w K mg base 1 "_law_mixed" ["_law_number"] (sp__law_mixed K c) := by
  refine okF T.f__law_mixed sc__law_mixed (fun vs H Q E h => ?_) (fun f cdv A outer sh H vs Q E hr h => ?_)
  · obtain ⟨x, rfl, h⟩ := arg1.ex h
    rfl
  · obtain ⟨x, rfl, h⟩ := arg1.ex h
    have tk : L2N.Takes (cxOf (L2N.CX P w) P w K mg base N__law_mixed "_law_mixed" (defScope s__law_mixed) f cdv A outer sh H (bE H E)) (fun cls d _ H' => bE H E cls d H') := L2N.takes_of rfl rfl rfl rfl
    refine ⟨_, pss_cons (ps_set (i := 0) sc__law_mixed.nd rfl (.inl rfl) (pe_op opU_mod (pe_op opU_mul (pe_op (opU_add (K := K)) (pe_op opU_mod (lv 0) pe_int) pe_int) pe_int) pe_int))
      (pss_cons (ps_set (i := 0) sc__law_mixed.nd rfl (.inl rfl) (pe_op opU_mod (pe_op opU_mul (lv 0) (pe_op (opU_add (K := K)) (pe_op opU_div (lv 0) pe_int) pe_int)) pe_int))
      (pss_one (ps_ret (pe_op opU_mod (pe_op opU_mul (pe_op (opU_add (K := K)) (lv 0) pe_int) (pe_op (opU_add (K := K)) (pe_op opU_div (lv 0) pe_int) pe_int)) pe_int)))), ?_⟩
    obtain ⟨n, rfl, wf, k⟩ := h
    have b1 := @mixed_b n 2147483647 (by decide)
    refine ⟨by decide, ?_⟩
    refine ⟨.inr <| mul_b (a := 32) (b := 16) (by omega) (by omega) (by decide) (by decide) (by decide) (by decide) (by decide), ?_⟩
    refine ⟨by decide, ?_⟩
    generalize hx : (n % 2147483647 + 1) * 48271 % 2147483647 = x
    have b2 : 0 ≤ x ∧ x < 2147483647 := by rw [← hx]; exact mixed_b (by decide)
    refine ⟨div_b (b := 10) (by decide) (by decide) (by decide) (by decide), ?_⟩
    refine ⟨.inr <| mul_b (a := 31) (b := 32) (by omega) (by omega) (by omega) (by omega) (by decide) (by decide) (by decide), ?_⟩
    refine ⟨by decide, ?_⟩
    generalize hy : x * (x / 1009 + 69621) % 2147483647 = y
    have b3 : 0 ≤ y ∧ y < 2147483647 := by rw [← hy]; exact mixed_b (by decide)
    refine ⟨div_b (b := 10) (by decide) (by decide) (by decide) (by decide), ?_⟩
    refine ⟨.inr <| mul_b (a := 32) (b := 32) (by omega) (by omega) (by omega) (by omega) (by decide) (by decide) (by decide), ?_⟩
    refine ⟨by decide, ?_⟩
    exact bQ.same wf (Same.refl _) (k _ (mixed_b (by decide)).1)

abbrev s__law_digit : Stmt := topS 20
abbrev N__law_digit : List Str := ["_law_state_here", "_law_base", "_law_found"]
theorem sc__law_digit : FnScope N__law_digit ["_law_state_here", "_law_base"] (defScope s__law_digit) := ⟨rfl, rfl, rfl, by decide +kernel, rfl, by decide +kernel, by decide +kernel⟩
def sp__law_digit (K : PySem.W.Frag) (c : Ad) : Sp := fun vs H Q E => arg2 (fun s b => ∃ a m, s = .ref a ∧ b = .int m ∧ St2 H a ∧ Bas m ∧ Wf H ∧ ∀ r p q, 0 ≤ r → r < m → 0 ≤ p → Q (.int r) (upd H a (stL p q))) vs
theorem ok__law_digit {P : Program} {w : World} {K : PySem.W.Frag} {mg : Str → Option Value} {base : Heap} {c : Ad} (T : Txt K mg c) : Ok P w K mg base 2 "_law_digit" ["_law_state_here", "_law_base"] (sp__law_digit K c) := by
  refine okF T.f__law_digit sc__law_digit (fun vs H Q E h => ?_) (fun f cdv A outer sh H vs Q E hr h => ?_)
  · obtain ⟨s, b, rfl, h⟩ := arg2.ex h
    rfl
  · obtain ⟨s, b, rfl, h⟩ := arg2.ex h
    have tk : L2N.Takes (cxOf (L2N.CX P w) P w K mg base N__law_digit "_law_digit" (defScope s__law_digit) f cdv A outer sh H (bE H E)) (fun cls d _ H' => bE H E cls d H') := L2N.takes_of rfl rfl rfl rfl
    refine ⟨_, pss_cons (ps_if (pt_cmpU opU_gt (pe_ix (ixU (K := K)) (lv 0) pe_int (fun _ _ => rfl)) pe_int (nomark _))
      (pss_cons (ps_set (i := 2) sc__law_digit.nd rfl (.inl rfl) (pe_op opU_mod (pe_ix (ixU (K := K)) (lv 0) pe_int (fun _ _ => rfl)) (lv 1)))
      (pss_cons (ps_asg (pe_op opU_div (pe_ix (ixU (K := K)) (lv 0) pe_int (fun _ _ => rfl)) (lv 1)) (pg_sub (lv 0) pe_int setU))
      (pss_one (ps_ret (lv 2))))) pss_nil)
      (pss_cons (ps_asg (pe_f (ok__law_mixed (K := K) T) hr passN (pa_cons (pe_op (opU_add (K := K)) (pe_ix (ixU (K := K)) (lv 0) pe_int (fun _ _ => rfl)) pe_int) pa_nil)) (pg_sub (lv 0) pe_int setU))
      (pss_one (ps_ret (pe_op opU_mod (pe_op opU_div (pe_ix (ixU (K := K)) (lv 0) pe_int (fun _ _ => rfl)) pe_int) (lv 1))))), ?_⟩
    obtain ⟨a, m, rfl, rfl, ⟨p, q, e, hp⟩, ⟨hm, hb⟩, wf, k⟩ := h
    have s1 : ∀ {H : Hp} {p q : Int}, H a = some (stL p q) → SqL K H a [.int p, .int q] := fun h => .inl (.inl h)
    have g0 : ∀ {p q : Int}, atI [V.int p, V.int q] 0 = some (.int p) := fun {p q} => rfl
    have g1 : ∀ {p q : Int}, atI [V.int p, V.int q] 1 = some (.int q) := fun {p q} => rfl
    refine ⟨_, _, .inl (s1 e), g0, ?_⟩
    refine iteC (fun h1 => ?_) (fun h1 => ?_)
    · refine ⟨_, _, .inl (s1 e), g0, hm, ?_⟩
      refine ⟨_, _, .inl (s1 e), g0, ⟨hm, hb⟩, ?_⟩
      refine ⟨_, 0, e, rfl, ?_⟩
      exact bQ.mk (wf.at trivial e fun x z => by cases z) (k _ _ _ (mixed_b hm).1 (mixed_b hm).2 (Int.ediv_nonneg hp (by omega)))
    · refine ⟨_, _, .inl (s1 e), g1, ?_⟩
      refine ⟨_, rfl, wf, fun r hr => ?_⟩
      refine ⟨_, 1, e, rfl, ?_⟩
      have e1 : (upd H a (stL p r)) a = some (stL p r) := upd_same
      refine ⟨_, _, .inl (s1 e1), g1, div_b (b := 8) (by decide) (by decide) (by decide) (by decide), hm, ?_⟩
      exact bQ.mk (wf.at trivial e fun x z => by cases z) (k _ _ _ (mixed_b hm).1 (mixed_b hm).2 hp)

def isCountB : V → Bool | .int n => decide (0 ≤ n) | _ => false
def isWholeD : PyData → Int → Int → Bool
  | .int n, a, b => decide (a ≤ n) && decide (n ≤ b)
  | _, _, _ => false
theorem whole_dp {K : PySem.W.Frag} {H : Hp} {v : V} {d : PyData} (h : Dp K H v d) (a b : Int) : isWholeB v a b = isWholeD d a b := by cases h <;> rfl
def arePausesD : PyData → Bool
  | .tuple ds => decide ((ds.length : Int) ≤ 10) && ds.all fun d => isWholeD d 0 1000000
  | _ => false
def isOrderD : PyData → Bool
  | .str z => inV (.str z) [.str "put", .str "turns"]
  | _ => false
def isRuleD : PyData → Bool
  | .tuple [a, b, c, e, f] => isOrderD a && (isWholeD b 1 20 && isWholeD c 1 1000000) && (arePausesD e && isWholeD f 0 200)
  | _ => false
theorem all_whole {K : PySem.W.Frag} {H : Hp} : ∀ {xs : List V} {ds : List PyData}, DpAll K H xs ds → ∀ a b : Int, (xs.map fun x => isWholeB x a b) = ds.map fun d => isWholeD d a b
  | _, _, .nil, _, _ => rfl
  | _, _, .cons h r, a, b => by rw [List.map_cons, List.map_cons, whole_dp h, all_whole r]
theorem rule_len {ds : List PyData} (h : ds.length ≠ 5) : isRuleD (.tuple ds) = false := by
  match ds, h with
  | [], _ => rfl
  | [_], _ => rfl
  | [_, _], _ => rfl
  | [_, _, _], _ => rfl
  | [_, _, _, _], _ => rfl
  | [_, _, _, _, _], h => exact absurd rfl h
  | _ :: _ :: _ :: _ :: _ :: _ :: _, _ => rfl

abbrev s_is_count : Stmt := topS 11
abbrev N_is_count : List Str := ["thing"]
theorem sc_is_count : FnScope N_is_count ["thing"] (defScope s_is_count) := ⟨rfl, rfl, rfl, by decide +kernel, rfl, by decide +kernel, by decide +kernel⟩
def sp_is_count (K : PySem.W.Frag) (c : Ad) : Sp := fun vs H Q E => arg1 (fun v => Kn K H v ∧ Wf H ∧ Q (.bl (isCountB v)) H) vs
theorem ok_is_count {P : Program} {w : World} {K : PySem.W.Frag} {mg : Str → Option Value} {base : Heap} {c : Ad} (T : Txt K mg c) : Ok P w K mg base 1 "is_count" ["thing"] (sp_is_count K c) := by
  refine okF T.f_is_count sc_is_count (fun vs H Q E h => ?_) (fun f cdv A outer sh H vs Q E hr h => ?_)
  · obtain ⟨v, rfl, h⟩ := arg1.ex h
    rfl
  · obtain ⟨v, rfl, h⟩ := arg1.ex h
    have tk : L2N.Takes (cxOf (L2N.CX P w) P w K mg base N_is_count "is_count" (defScope s_is_count) f cdv A outer sh H (bE H E)) (fun cls d _ H' => bE H E cls d H') := L2N.takes_of rfl rfl rfl rfl
    refine ⟨_, pss_one (ps_ret (pe_andU (K := K) (pe_callB (callU_isi (K := K)) (by rfl) T.m_isinstance (by decide +kernel) (pa_cons (lv 0) (pa_cons (pe_ty "int" T.m_int) pa_nil))) (pe_andU (K := K) (pe_notU (K := K) (pe_callB (callU_isi (K := K)) (by rfl) T.m_isinstance (by decide +kernel) (pa_cons (lv 0) (pa_cons (pe_ty "bool" T.m_bool) pa_nil)))) (pe_one (pe_cmpR opU_ge (lv 0) pe_int (nomark _)))))), ?_⟩
    obtain ⟨hk, wf, k⟩ := h
    refine ⟨_, isk_int hk, ?_⟩
    cases v with
    | int n => exact ⟨_, isk_bool hk, bQ.same wf (Same.refl _) k⟩
    | bl n => exact ⟨_, isk_bool hk, bQ.same wf (Same.refl _) k⟩
    | str z => exact bQ.same wf (Same.refl _) k
    | non => exact bQ.same wf (Same.refl _) k
    | ref p => exact bQ.same wf (Same.refl _) k
    | byt b => exact hk.elim
    | flt b => exact hk.elim
    | ty b => exact hk.elim

theorem lets_ok : ∀ c ∈ lets, c < 0x110000 := by decide +kernel
/-- a name -/
def NameS (z : Str) : Prop := isNameB (.str z) = true ∧ sOk z
theorem NameS.len {z : Str} (h : NameS z) : 1 ≤ z.length ∧ z.length ≤ 8 := by
  have q : (decide (1 ≤ (z.length : Int)) && decide ((z.length : Int) ≤ 8) && z.cps.toList.all fun c => decide (c ∈ lets)) = true := h.1
  rw [Bool.and_eq_true, Bool.and_eq_true, decide_eq_true_eq, decide_eq_true_eq] at q
  omega
theorem NameS.of {cs : List Nat} (h1 : 1 ≤ cs.length) (h8 : cs.length ≤ 8) (h : ∀ c ∈ cs, c ∈ lets) : NameS ⟨cs.toArray⟩ := by
  refine ⟨?_, sOk_list fun c hc => lets_ok c (h c hc)⟩
  have e : (⟨cs.toArray⟩ : Str).length = cs.length := List.size_toArray ..
  show (decide (1 ≤ (((⟨cs.toArray⟩ : Str).length : Nat) : Int)) && decide ((((⟨cs.toArray⟩ : Str).length : Nat) : Int) ≤ 8) && cs.all fun c => decide (c ∈ lets)) = true
  rw [e, decide_eq_true (by omega), decide_eq_true (by omega), Bool.true_and, Bool.true_and, List.all_eq_true]
  intro c hc
  exact decide_eq_true (h c hc)

abbrev s__law_name : Stmt := topS 21
abbrev N__law_name : List Str := ["_law_state_here", "_law_letters", "_law_k"]
theorem sc__law_name : FnScope N__law_name ["_law_state_here"] (defScope s__law_name) := ⟨rfl, rfl, rfl, by decide +kernel, rfl, by decide +kernel, by decide +kernel⟩
def sp__law_name (K : PySem.W.Frag) (c : Ad) : Sp := fun vs H Q E => arg1 (fun s => ∃ a, s = .ref a ∧ St2 H a ∧ Wf H ∧ ∀ z p q, NameS z → 0 ≤ p → Q (.str z) (upd H a (stL p q))) vs
theorem ok__law_name {P : Program} {w : World} {K : PySem.W.Frag} {mg : Str → Option Value} {base : Heap} {c : Ad} (T : Txt K mg c) : Ok P w K mg base 3 "_law_name" ["_law_state_here"] (sp__law_name K c) := by
  refine okF T.f__law_name sc__law_name (fun vs H Q E h => ?_) (fun f cdv A outer sh H vs Q E hr h => ?_)
  · obtain ⟨s, rfl, h⟩ := arg1.ex h
    rfl
  · obtain ⟨s, rfl, h⟩ := arg1.ex h
    have tk : L2N.Takes (cxOf (L2N.CX P w) P w K mg base N__law_name "_law_name" (defScope s__law_name) f cdv A outer sh H (bE H E)) (fun cls d _ H' => bE H E cls d H') := L2N.takes_of rfl rfl rfl rfl
    refine ⟨_, pss_cons (ps_set (i := 1) sc__law_name.nd rfl (.inr rfl) pe_str)
      (pss_one (ps_ret (pe_join pe_str (pe_lc (own := [("_law_k", 2)]) (g := gName 2) rfl sc__law_name.nd (pi_range1 (by rfl) T.m_range (pa_cons (pe_op (opU_add (K := K)) pe_int (pe_f (ok__law_digit (K := K) T) hr passN (pa_cons (lv 0) (pa_cons pe_int pa_nil)))) pa_nil)) (blkOk_by (own := [("_law_k", 2)]) (N := N__law_name) (sc := defScope s__law_name) (by decide +kernel)) (fun _ _ _ _ _ => pg_name (i := 2) sc__law_name.nd rfl (.inl rfl)) (fun _ _ _ _ _ => pts_nil) (fun _ _ _ _ _ => pe_ix (ixU (K := K)) (lv 1) (pe_f (ok__law_digit (K := K) T) hr passN (pa_cons (lv 0) (pa_cons pe_int pa_nil))) (fun _ _ => rfl)))))), ?_⟩
    obtain ⟨a, rfl, s0, wf, k⟩ := h
    have d0 := Dr.refl s0 wf
    refine ⟨⟨_, rfl⟩, ?_⟩
    refine ⟨a, 8, rfl, rfl, s0, bas_lt (by decide) (by decide), wf, fun r2 p2 q2 g2 l2 n2 => ?_⟩
    have d2 := d0.drawn (q := q2) n2
    generalize upd H a (stL p2 q2) = H2 at d2 ⊢
    refine ⟨_, rfl, by omega, by omega, fun D nD => ?_⟩
    have nDa : D ≠ a := fun e => by
      obtain ⟨_, _, e1, _⟩ := d2.st
      rw [← e, nD] at e1
      cases e1
    refine lc_range (lo := 0) (n := (1 + r2).toNat) (fun i H' => ∃ cs : List Nat, Dr a H2 H' ∧ H' D = some (.lst (cs.map fun c => V.str ⟨#[c]⟩)) ∧ cs.length = i ∧ ∀ c ∈ cs, c ∈ lets) ⟨[], (Dr.refl d2.st d2.wf).new nD trivial, upd_same, rfl, by simp⟩ (fun i H' hi hp => ?_) (fun H' hp => ?_)
    · obtain ⟨cs, d, eD, hl, hcs⟩ := hp
      refine ⟨rfl, ?_⟩
      refine ⟨a, 26, rfl, rfl, d.st, bas_lt (by decide) (by decide), d.wf, fun r p q g l n => ?_⟩
      obtain ⟨c, hc, hcm⟩ := at_lt (xs := lets) g (by exact l)
      refine ⟨line_of (show 26 ≤ 16777216 by decide), c, hc, _, (upd_ne nDa).trans eD, line_lt ?_, cs ++ [c], ?_, ?_, ?_, ?_⟩
      · rw [List.length_map]
        omega
      · exact (d.drawn (q := q) n).put nD ((upd_ne nDa).trans eD) (fun _ z => by cases z) trivial nDa
      · rw [upd_same, List.map_append]
        rfl
      · rw [List.length_append, hl]
        rfl
      · intro x hx
        rcases List.mem_append.mp hx with h | h
        · exact hcs x h
        · rw [List.mem_singleton.mp h]
          exact hcm
    · obtain ⟨cs, d, eD, hl, hcs⟩ := hp
      have d3 := d2.trans d
      refine ⟨_, D, cs.map fun c => ⟨#[c]⟩, rfl, rfl, .inl (.inl (.inl ?_)), ?_, ?_⟩
      · rw [eD, List.map_map]
        rfl
      · have e1 : ((cs.map fun c => (⟨#[c]⟩ : Str)).map (·.length)).sum = cs.length := by
          clear eD hl hcs
          induction cs with
          | nil => rfl
          | cons c r ih =>
            rw [List.map_cons, List.map_cons, List.sum_cons, ih, List.length_cons]
            exact Nat.add_comm 1 _
        rw [e1, List.length_map]
        show cs.length + cs.length * 0 ≤ 16777216
        omega
      · have e2 : Txt.join (PySem.Str.ofString "") (cs.map fun c => (⟨#[c]⟩ : Str)) = ⟨cs.toArray⟩ := join_ones cs
        rw [e2]
        exact d3.done wf s0 fun p q h0 => k _ p q (NameS.of (by omega) (by omega) hcs) h0

def fsH (nm : Str) (ap : Int) (dk : Addr) : List (Str × V) := [("name", .str nm), ("apart", .int ap), ("kept", .ref dk)]
/-- a hand stands at x -/
def HandAt (C : Addr) (H : Hp) (x : Addr) (nm : Str) (ap : Int) (es : List (Int × Int)) : Prop := ∃ dx dk, H x = some (.ins C dx (fsH nm ap dk)) ∧ H dk = some (.dK (kvI es))
theorem HandAt.keep {C : Addr} {H H' : Hp} {x : Addr} {nm : Str} {ap : Int} {es : List (Int × Int)} (h : HandAt C H x nm ap es) (s : Same H H') : HandAt C H' x nm ap es := by
  obtain ⟨dx, dk, h1, h2⟩ := h
  exact ⟨dx, dk, s _ _ h1, s _ _ h2⟩
theorem count_ok {n : Int} (h : 0 ≤ n) : isCountB (.int n) = true := decide_eq_true h

abbrev s_sure_clock : Stmt := topS 14
abbrev N_sure_clock : List Str := ["clock"]
theorem sc_sure_clock : FnScope N_sure_clock ["clock"] (defScope s_sure_clock) := ⟨rfl, rfl, rfl, by decide +kernel, rfl, by decide +kernel, by decide +kernel⟩
def sp_sure_clock (K : PySem.W.Frag) (c : Ad) : Sp := fun vs H Q E => arg1 (fun v => Kn K H v ∧ Wf H ∧ (isCountB v = true → Q .non H) ∧ (isCountB v = false → E (.ref c.NoMoment) none H)) vs
theorem ok_sure_clock {P : Program} {w : World} {K : PySem.W.Frag} {mg : Str → Option Value} {base : Heap} {c : Ad} (T : Txt K mg c) : Ok P w K mg base 3 "sure_clock" ["clock"] (sp_sure_clock K c) := by
  refine okF T.f_sure_clock sc_sure_clock (fun vs H Q E h => ?_) (fun f cdv A outer sh H vs Q E hr h => ?_)
  · obtain ⟨v, rfl, h⟩ := arg1.ex h
    rfl
  · obtain ⟨v, rfl, h⟩ := arg1.ex h
    have tk : L2N.Takes (cxOf (L2N.CX P w) P w K mg base N_sure_clock "sure_clock" (defScope s_sure_clock) f cdv A outer sh H (bE H E)) (fun cls d _ H' => bE H E cls d H') := L2N.takes_of rfl rfl rfl rfl
    refine ⟨_, pss_one (ps_if (pt_not (pt_truthU (K := K) (pe_f (ok_is_count (K := K) T) (hr.mono (by decide)) passN (pa_cons (lv 0) pa_nil)) (by intro _; rfl)))
      (pss_one (ps_rai T.x_NoMoment tk)) pss_nil), ?_⟩
    obtain ⟨hk, wf, k, kE⟩ := h
    refine ⟨hk, wf, ?_⟩
    refine iteB (c := !isCountB v) (fun g => ?_) (fun g => ?_)
    · exact bE.same wf (Same.refl _) (kE (not_b g))
    · exact bQ.same wf (Same.refl _) (k (not_b' g))

abbrev s_Hand___init__ : Stmt := inClass (topS 15) 0
abbrev N_Hand___init__ : List Str := ["self", "name", "apart"]
theorem sc_Hand___init__ : FnScope N_Hand___init__ ["self", "name", "apart"] (defScope s_Hand___init__) := ⟨rfl, rfl, rfl, by decide +kernel, rfl, by decide +kernel, by decide +kernel⟩
def cr_Hand___init__ (c : Ad) (C : Addr) : Prop := C = c.Hand
def sp_Hand___init__ (K : PySem.W.Frag) (c : Ad) (C : Addr) : Sp := fun vs H Q E => arg3 (fun s v u => ∃ x dx, s = .ref x ∧ C = c.Hand ∧ H x = some (.ins C dx []) ∧ Wf H ∧ ((∃ nm ap, v = .str nm ∧ u = .int ap ∧ NameS nm ∧ 0 ≤ ap ∧ ap ≤ 1000000 ∧ ∀ dk H', H dk = none → H' x = some (.ins C dx (fsH nm ap dk)) → H' dk = some (.dK []) → KX x H H' → Wf H' → Q .non H') ∨ (Kn K H v ∧ Short v ∧ isNameB v = false ∧ E (.ref c.NoHand) none H) ∨ (∃ nm, v = .str nm ∧ NameS nm ∧ Kn K H u ∧ isWholeB u 0 1000000 = false ∧ E (.ref c.NoApart) none H))) vs
theorem ok_Hand___init__ {P : Program} {w : World} {K : PySem.W.Frag} {mg : Str → Option Value} {base : Heap} {c : Ad} (T : Txt K mg c) {x : Str} {C : Addr} (hx : x = "Hand" ∧ C = c.Hand) : OkI P w K mg base 3 x C ["self", "name", "apart"] (sp_Hand___init__ K c C) := by
  have F : MkAt K mg x C "Hand.__init__" s_Hand___init__ ["self", "name", "apart"] ∧ cr_Hand___init__ c C := by
    rcases hx with ⟨rfl, rfl⟩
    · exact ⟨T.i_Hand, rfl⟩
  obtain ⟨F, hC⟩ := F
  have cl : Cls K C := by
    rcases hC with rfl
    · exact T.o_Hand.cl
  have n_name : NoAttr K C "name" := by
    rcases hC with rfl
    · exact T.n_Hand_name
  have n_apart : NoAttr K C "apart" := by
    rcases hC with rfl
    · exact T.n_Hand_apart
  have n_kept : NoAttr K C "kept" := by
    rcases hC with rfl
    · exact T.n_Hand_kept
  refine okI F sc_Hand___init__ (fun vs H Q E h => ?_) (fun f cdv A outer sh H vs Q E hr h => ?_)
  · obtain ⟨s, v, u, rfl, h⟩ := arg3.ex h
    rfl
  · obtain ⟨s, v, u, rfl, h⟩ := arg3.ex h
    have tk : L2N.Takes (cxOf (L2N.CX P w) P w K mg base N_Hand___init__ "Hand.__init__" (defScope s_Hand___init__) f cdv A outer sh H (bE H E)) (fun cls d _ H' => bE H E cls d H') := L2N.takes_of rfl rfl rfl rfl
    refine ⟨_, pss_cons (ps_if (pt_not (pt_truthU (K := K) (pe_f (ok_is_name (K := K) T) (hr.mono (by decide)) passN (pa_cons (lv 1) pa_nil)) (by intro _; rfl)))
      (pss_one (ps_rai T.x_NoHand tk)) pss_nil)
      (pss_cons (ps_if (pt_not (pt_truthU (K := K) (pe_f (ok_is_whole (K := K) T) (hr.mono (by decide)) passN (pa_cons (lv 2) (pa_cons pe_int (pa_cons (pe_g T.g_MOST_APART) pa_nil)))) (by intro _; rfl)))
      (pss_one (ps_rai T.x_NoApart tk)) pss_nil)
      (pss_cons (ps_fld (lv 0) (lv 1) rfl)
      (pss_cons (ps_fld (lv 0) (lv 2) rfl)
      (pss_one (ps_fld (lv 0) pe_dnewK rfl))))), ?_⟩
    obtain ⟨x, dx, rfl, eC, hx, wf, h⟩ := h
    rcases h with ⟨nm, ap, rfl, rfl, sn, a0, a1, k⟩ | ⟨hk, hs, hn, k⟩ | ⟨nm, rfl, sn, hk, hw, k⟩
    · refine ⟨trivial, fun z e => by cases e; exact ⟨by have := sn.len; omega, sn.2⟩, wf, ?_⟩
      rw [sn.1]
      refine ⟨0, 1000000, rfl, rfl, trivial, wf, ?_⟩
      have ew : isWholeB (.int ap) 0 1000000 = true := by
        show (decide (0 ≤ ap) && decide (ap ≤ 1000000)) = true
        rw [decide_eq_true a0, decide_eq_true a1]
        rfl
      rw [ew]
      subst eC
      refine ⟨x, c.Hand, dx, _, rfl, hx, T.o_Hand.cl, T.n_Hand_name, by simp, ?_⟩
      refine ⟨x, c.Hand, dx, _, rfl, upd_same, T.o_Hand.cl, T.n_Hand_apart, by simp [putF], ?_⟩
      rw [upd_upd]
      intro dk ndk
      have w1 := wf.ins (gs := putF "apart" (.int ap) (putF "name" (.str nm) [])) hx
      have k1 := kx_put (o := .ins c.Hand dx (putF "apart" (.int ap) (putF "name" (.str nm) []))) (fun _ _ _ e => e : KX x H H)
      have e1 : (upd H x (.ins c.Hand dx (putF "apart" (.int ap) (putF "name" (.str nm) [])))) x = some (.ins c.Hand dx (putF "apart" (.int ap) (putF "name" (.str nm) []))) := upd_same
      generalize upd H x (.ins c.Hand dx (putF "apart" (.int ap) (putF "name" (.str nm) []))) = H1 at w1 k1 e1 ndk ⊢
      have ne : dk ≠ x := fun z => by rw [z, e1] at ndk; cases ndk
      refine ⟨x, c.Hand, dx, _, rfl, same_new ndk _ _ e1, T.o_Hand.cl, T.n_Hand_kept, (show ([(("name" : Str), V.str nm), (("apart" : Str), V.int ap)] : List (Str × V)).length < 1000 by simp), ?_⟩
      have w2 := (w1.new (o := .dK []) trivial ndk).ins (gs := fsH nm ap dk) (same_new ndk _ _ e1)
      have hdk : H dk = none := by
        cases e : H dk with
        | none => rfl
        | some o =>
          have := k1 dk o ne e
          rw [ndk] at this
          cases this
      exact bQ.mk w2 (k dk _ hdk upd_same ((upd_ne ne).trans upd_same) (kx_put (kx_new ndk k1)) w2)
    · refine ⟨hk, hs, wf, ?_⟩
      rw [hn]
      exact bE.same wf (Same.refl _) k
    · refine ⟨trivial, fun z e => by cases e; exact ⟨by have := sn.len; omega, sn.2⟩, wf, ?_⟩
      rw [sn.1]
      refine ⟨0, 1000000, rfl, rfl, hk, wf, ?_⟩
      rw [hw]
      exact bE.same wf (Same.refl _) k

def getI (es : List (Int × Int)) (k : Int) : Int := (valI es k).getD 0
/-- what a hand keeps behind an end heard -/
def heard (es : List (Int × Int)) (n e : Int) : List (Int × Int) := putI es n (if e < getI es n then getI es n else e)

abbrev s_Hand_hears : Stmt := inClass (topS 15) 1
abbrev N_Hand_hears : List Str := ["self", "loan", "end"]
theorem sc_Hand_hears : FnScope N_Hand_hears ["self", "loan", "end"] (defScope s_Hand_hears) := ⟨rfl, rfl, rfl, by decide +kernel, rfl, by decide +kernel, by decide +kernel⟩
def cr_Hand_hears (c : Ad) (C : Addr) : Prop := C = c.Hand
def sp_Hand_hears (K : PySem.W.Frag) (c : Ad) (C : Addr) : Sp := fun vs H Q E => arg3 (fun s v u => ∃ x nm ap es, s = .ref x ∧ C = c.Hand ∧ HandAt C H x nm ap es ∧ es.length ≤ 1000 ∧ Wf H ∧ ((∃ n e, v = .int n ∧ u = .int e ∧ 0 ≤ n ∧ 0 ≤ e ∧ ∀ dx dk, H x = some (.ins C dx (fsH nm ap dk)) → H dk = some (.dK (kvI es)) → Q .non (upd H dk (.dK (kvI (heard es n e))))) ∨ (Kn K H v ∧ isCountB v = false ∧ E (.ref c.NoLoan) none H) ∨ (Kn K H v ∧ isCountB v = true ∧ Kn K H u ∧ isCountB u = false ∧ E (.ref c.NoMoment) none H))) vs
theorem ok_Hand_hears {P : Program} {w : World} {K : PySem.W.Frag} {mg : Str → Option Value} {base : Heap} {c : Ad} (T : Txt K mg c) {C : Addr} (hC : cr_Hand_hears c C) : OkM P w K mg base 4 C "hears" ["self", "loan", "end"] (sp_Hand_hears K c C) := by
  have F : MtAt K C "hears" "Hand.hears" s_Hand_hears ["self", "loan", "end"] := by
    rcases hC with rfl
    · exact T.m_Hand_hears
  have cl : Cls K C := by
    rcases hC with rfl
    · exact T.o_Hand.cl
  have n_name : NoAttr K C "name" := by
    rcases hC with rfl
    · exact T.n_Hand_name
  have n_apart : NoAttr K C "apart" := by
    rcases hC with rfl
    · exact T.n_Hand_apart
  have n_kept : NoAttr K C "kept" := by
    rcases hC with rfl
    · exact T.n_Hand_kept
  refine okM F sc_Hand_hears (fun vs H Q E h => ?_) (fun f cdv A outer sh H vs Q E hr h => ?_)
  · obtain ⟨s, v, u, rfl, h⟩ := arg3.ex h
    rfl
  · obtain ⟨s, v, u, rfl, h⟩ := arg3.ex h
    have tk : L2N.Takes (cxOf (L2N.CX P w) P w K mg base N_Hand_hears "Hand.hears" (defScope s_Hand_hears) f cdv A outer sh H (bE H E)) (fun cls d _ H' => bE H E cls d H') := L2N.takes_of rfl rfl rfl rfl
    refine ⟨_, pss_cons (ps_if (pt_not (pt_truthU (K := K) (pe_f (ok_is_count (K := K) T) (hr.mono (by decide)) passN (pa_cons (lv 1) pa_nil)) (by intro _; rfl)))
      (pss_one (ps_rai T.x_NoLoan tk)) pss_nil)
      (pss_cons (ps_expr (pe_fS (ok_sure_clock (K := K) T) hr tk (pa_cons (lv 2) pa_nil)))
      (pss_one (ps_dput (roomU1 hr :) (pe_fldK (K := K) (lv 0) rfl) (lv 1) (pe_callB (callU_max2 rfl) (by rfl) T.m_max (by decide +kernel) (pa_cons (lv 2) (pa_cons (pe_dget2 (roomU1 hr :) (pe_fldK (K := K) (lv 0) rfl) (lv 1) pe_int ⟨by rfl, by rfl, by rfl, by rfl⟩) pa_nil))) (by rfl)))), ?_⟩
    obtain ⟨x, nm, ap, es, rfl, eC, ⟨dx, dk, hx, hd⟩, le, wf, h⟩ := h
    rcases h with ⟨n, e, rfl, rfl, n0, e0, k⟩ | ⟨hk, hn, k⟩ | ⟨hk, hn, hu, hm, k⟩
    · refine ⟨trivial, wf, ?_⟩
      rw [count_ok n0]
      refine ⟨trivial, wf, fun _ => ?_, fun z => by rw [count_ok e0] at z; cases z⟩
      subst eC
      have eg : ((valI es n).map V.int).getD (.int 0) = .int (getI es n) := by
        unfold getI
        cases valI es n <;> rfl
      refine ⟨x, c.Hand, dx, _, _, rfl, hx, T.o_Hand.cl, T.n_Hand_kept, rfl, ?_⟩
      refine ⟨dk, rfl, .inl ⟨_, .inl hd⟩, (valI es n).map V.int, kvI_val es n ▸ DGet.k (k := .inl n) hd, ?_⟩
      rw [eg]
      refine ⟨x, c.Hand, dx, _, _, rfl, hx, T.o_Hand.cl, T.n_Hand_kept, rfl, ?_⟩
      refine ⟨dk, _, rfl, .inl ⟨kvI es, .inl n, hd, rfl, line_lt (by rw [kvI_len]; omega), rfl⟩, ?_⟩
      rw [kvI_put]
      exact bQ.mk (wf.at trivial hd fun _ z => by cases z) (k dx dk hx hd)
    · refine ⟨hk, wf, ?_⟩
      rw [hn]
      exact bE.same wf (Same.refl _) k
    · refine ⟨hk, wf, ?_⟩
      rw [hn]
      refine ⟨hu, wf, fun z => (by rw [hm] at z; cases z), fun _ => ?_⟩
      exact bE.same wf (Same.refl _) k
theorem okm_Hand_hears {P : Program} {w : World} {K : PySem.W.Frag} {mg : Str → Option Value} {base : Heap} {c : Ad} (T : Txt K mg c) : ∀ C, cs_Hand c C → OkM P w K mg base 4 C "hears" ["self", "loan", "end"] (sp_Hand_hears K c C) := fun C h => ok_Hand_hears T (by
  have e : C = c.Hand := h
  exact e)

abbrev s_Hand_end_of : Stmt := inClass (topS 15) 2
abbrev N_Hand_end_of : List Str := ["self", "loan"]
theorem sc_Hand_end_of : FnScope N_Hand_end_of ["self", "loan"] (defScope s_Hand_end_of) := ⟨rfl, rfl, rfl, by decide +kernel, rfl, by decide +kernel, by decide +kernel⟩
def cr_Hand_end_of (c : Ad) (C : Addr) : Prop := C = c.Hand
def sp_Hand_end_of (K : PySem.W.Frag) (c : Ad) (C : Addr) : Sp := fun vs H Q E => arg2 (fun s v => ∃ x nm ap es, s = .ref x ∧ C = c.Hand ∧ HandAt C H x nm ap es ∧ Wf H ∧ ((∃ n e, v = .int n ∧ 0 ≤ n ∧ valI es n = some e ∧ Q (.int e) H) ∨ (Kn K H v ∧ (∀ n, v = .int n → 0 ≤ n → valI es n = none) ∧ E (.ref c.NoLoan) none H))) vs
theorem ok_Hand_end_of {P : Program} {w : World} {K : PySem.W.Frag} {mg : Str → Option Value} {base : Heap} {c : Ad} (T : Txt K mg c) {C : Addr} (hC : cr_Hand_end_of c C) : OkM P w K mg base 3 C "end_of" ["self", "loan"] (sp_Hand_end_of K c C) := by
  have F : MtAt K C "end_of" "Hand.end_of" s_Hand_end_of ["self", "loan"] := by
    rcases hC with rfl
    · exact T.m_Hand_end_of
  have cl : Cls K C := by
    rcases hC with rfl
    · exact T.o_Hand.cl
  have n_name : NoAttr K C "name" := by
    rcases hC with rfl
    · exact T.n_Hand_name
  have n_apart : NoAttr K C "apart" := by
    rcases hC with rfl
    · exact T.n_Hand_apart
  have n_kept : NoAttr K C "kept" := by
    rcases hC with rfl
    · exact T.n_Hand_kept
  refine okM F sc_Hand_end_of (fun vs H Q E h => ?_) (fun f cdv A outer sh H vs Q E hr h => ?_)
  · obtain ⟨s, v, rfl, h⟩ := arg2.ex h
    rfl
  · obtain ⟨s, v, rfl, h⟩ := arg2.ex h
    have tk : L2N.Takes (cxOf (L2N.CX P w) P w K mg base N_Hand_end_of "Hand.end_of" (defScope s_Hand_end_of) f cdv A outer sh H (bE H E)) (fun cls d _ H' => bE H E cls d H') := L2N.takes_of rfl rfl rfl rfl
    refine ⟨_, pss_cons (ps_if (PW.pt (pw_or (pt_not (pt_truthU (K := K) (pe_f (ok_is_count (K := K) T) (hr.mono (by decide)) passN (pa_cons (lv 1) pa_nil)) (by intro _; rfl))) (pw_or1 (pt_pcU (pc_dnotin (roomU1 hr :) (lv 1) (pe_fldK (K := K) (lv 0) rfl)) (by rfl)))))
      (pss_one (ps_rai T.x_NoLoan tk)) pss_nil)
      (pss_one (ps_ret (pe_dget (roomU1 hr :) (pe_fldK (K := K) (lv 0) rfl) (lv 1) (fun _ _ => rfl)))), ?_⟩
    obtain ⟨x, nm, ap, es, rfl, eC, ⟨dx, dk, hx, hd⟩, wf, g0⟩ := h
    subst eC
    rcases g0 with ⟨n, e, rfl, n0, hv, k⟩ | ⟨hk, hn, k⟩
    · refine ⟨trivial, wf, ?_⟩
      rw [count_ok n0]
      have hg : DGet H dk (.int n) (some (.int e)) := by
        have := DGet.k (k := .inl n) hd
        rw [kvI_val, hv] at this
        exact this
      refine ⟨x, c.Hand, dx, _, _, rfl, hx, T.o_Hand.cl, T.n_Hand_kept, rfl, ?_⟩
      refine ⟨dk, _, rfl, hg, ?_⟩
      refine ⟨x, c.Hand, dx, _, _, rfl, hx, T.o_Hand.cl, T.n_Hand_kept, rfl, ?_⟩
      exact ⟨dk, _, rfl, hg, bQ.same wf (Same.refl _) k⟩
    · refine ⟨hk, wf, ?_⟩
      refine iteB (c := !isCountB v) (fun g => ?_) (fun g => ?_)
      · exact bE.same wf (Same.refl _) k
      · obtain ⟨n, rfl, n0⟩ : ∃ n, v = .int n ∧ 0 ≤ n := by
          have g' := not_b' g
          cases v with
          | int n => exact ⟨n, rfl, of_decide_eq_true g'⟩
          | _ => cases g'
        have hg : DGet H dk (.int n) none := by
          have := DGet.k (k := .inl n) hd
          rw [kvI_val, hn n rfl n0] at this
          exact this
        refine ⟨x, c.Hand, dx, _, _, rfl, hx, T.o_Hand.cl, T.n_Hand_kept, rfl, ?_⟩
        exact ⟨dk, _, rfl, hg, bE.same wf (Same.refl _) k⟩
theorem okm_Hand_end_of {P : Program} {w : World} {K : PySem.W.Frag} {mg : Str → Option Value} {base : Heap} {c : Ad} (T : Txt K mg c) : ∀ C, cs_Hand c C → OkM P w K mg base 3 C "end_of" ["self", "loan"] (sp_Hand_end_of K c C) := fun C h => ok_Hand_end_of T (by
  have e : C = c.Hand := h
  exact e)

abbrev s_Hand_surely_out : Stmt := inClass (topS 15) 4
abbrev N_Hand_surely_out : List Str := ["self", "clock", "loan"]
theorem sc_Hand_surely_out : FnScope N_Hand_surely_out ["self", "clock", "loan"] (defScope s_Hand_surely_out) := ⟨rfl, rfl, rfl, by decide +kernel, rfl, by decide +kernel, by decide +kernel⟩
def cr_Hand_surely_out (c : Ad) (C : Addr) : Prop := C = c.Hand
def sp_Hand_surely_out (K : PySem.W.Frag) (c : Ad) (C : Addr) : Sp := fun vs H Q E => arg3 (fun s u v => ∃ x nm ap es, s = .ref x ∧ C = c.Hand ∧ HandAt C H x nm ap es ∧ Wf H ∧ ((∃ cl n e, u = .int cl ∧ 0 ≤ cl ∧ v = .int n ∧ 0 ≤ n ∧ valI es n = some e ∧ Q (.bl (decide (cl + ap < e))) H) ∨ (Kn K H u ∧ isCountB u = false ∧ E (.ref c.NoMoment) none H) ∨ (Kn K H u ∧ isCountB u = true ∧ Kn K H v ∧ (∀ n, v = .int n → 0 ≤ n → valI es n = none) ∧ E (.ref c.NoLoan) none H))) vs
theorem ok_Hand_surely_out {P : Program} {w : World} {K : PySem.W.Frag} {mg : Str → Option Value} {base : Heap} {c : Ad} (T : Txt K mg c) {C : Addr} (hC : cr_Hand_surely_out c C) : OkM P w K mg base 4 C "surely_out" ["self", "clock", "loan"] (sp_Hand_surely_out K c C) := by
  have F : MtAt K C "surely_out" "Hand.surely_out" s_Hand_surely_out ["self", "clock", "loan"] := by
    rcases hC with rfl
    · exact T.m_Hand_surely_out
  have cl : Cls K C := by
    rcases hC with rfl
    · exact T.o_Hand.cl
  have n_name : NoAttr K C "name" := by
    rcases hC with rfl
    · exact T.n_Hand_name
  have n_apart : NoAttr K C "apart" := by
    rcases hC with rfl
    · exact T.n_Hand_apart
  have n_kept : NoAttr K C "kept" := by
    rcases hC with rfl
    · exact T.n_Hand_kept
  refine okM F sc_Hand_surely_out (fun vs H Q E h => ?_) (fun f cdv A outer sh H vs Q E hr h => ?_)
  · obtain ⟨s, u, v, rfl, h⟩ := arg3.ex h
    rfl
  · obtain ⟨s, u, v, rfl, h⟩ := arg3.ex h
    have tk : L2N.Takes (cxOf (L2N.CX P w) P w K mg base N_Hand_surely_out "Hand.surely_out" (defScope s_Hand_surely_out) f cdv A outer sh H (bE H E)) (fun cls d _ H' => bE H E cls d H') := L2N.takes_of rfl rfl rfl rfl
    refine ⟨_, pss_cons (ps_expr (pe_fS (ok_sure_clock (K := K) T) hr tk (pa_cons (lv 1) pa_nil)))
      (pss_one (ps_ret (pe_cmpR opU_lt (pe_op (opU_add (K := K)) (lv 1) (pe_fldK (K := K) (lv 0) rfl)) (pe_mS (CS := cs_Hand c) (lv 0) (okc_Hand T) (okm_Hand_end_of T) hr tk (pa_cons (lv 2) pa_nil)) (nomark _)))), ?_⟩
    obtain ⟨x, nm, ap, es, rfl, eC, ha, wf, g0⟩ := h
    obtain ⟨dx, dk, hx, hd⟩ := ha
    have ha : HandAt C H x nm ap es := ⟨dx, dk, hx, hd⟩
    subst eC
    rcases g0 with ⟨cl, n, e, rfl, c0, rfl, n0, hv, k⟩ | ⟨hk, hn, k⟩ | ⟨hk, hc, hk2, hn, k⟩
    · refine ⟨trivial, wf, fun _ => ?_, fun z => by rw [count_ok c0] at z; cases z⟩
      refine ⟨x, c.Hand, dx, _, _, rfl, hx, T.o_Hand.cl, T.n_Hand_apart, rfl, ?_⟩
      refine ⟨x, c.Hand, dx, _, rfl, hx, rfl, rfl, x, nm, ap, es, rfl, rfl, ha, wf, .inl ⟨n, e, rfl, n0, hv, ?_⟩⟩
      exact bQ.same wf (Same.refl _) k
    · refine ⟨hk, wf, fun z => (by rw [hn] at z; cases z), fun _ => ?_⟩
      exact bE.same wf (Same.refl _) k
    · refine ⟨hk, wf, fun _ => ?_, fun z => (by rw [hc] at z; cases z)⟩
      obtain ⟨cl, rfl⟩ : ∃ cl, u = .int cl := by
        cases u with
        | int n => exact ⟨n, rfl⟩
        | _ => cases hc
      refine ⟨x, c.Hand, dx, _, _, rfl, hx, T.o_Hand.cl, T.n_Hand_apart, rfl, ?_⟩
      refine ⟨x, c.Hand, dx, _, rfl, hx, rfl, rfl, x, nm, ap, es, rfl, rfl, ha, wf, .inr ⟨hk2, hn, ?_⟩⟩
      exact bE.same wf (Same.refl _) k
theorem okm_Hand_surely_out {P : Program} {w : World} {K : PySem.W.Frag} {mg : Str → Option Value} {base : Heap} {c : Ad} (T : Txt K mg c) : ∀ C, cs_Hand c C → OkM P w K mg base 4 C "surely_out" ["self", "clock", "loan"] (sp_Hand_surely_out K c C) := fun C h => ok_Hand_surely_out T (by
  have e : C = c.Hand := h
  exact e)

abbrev s_Hand_surely_over : Stmt := inClass (topS 15) 5
abbrev N_Hand_surely_over : List Str := ["self", "clock", "loan"]
theorem sc_Hand_surely_over : FnScope N_Hand_surely_over ["self", "clock", "loan"] (defScope s_Hand_surely_over) := ⟨rfl, rfl, rfl, by decide +kernel, rfl, by decide +kernel, by decide +kernel⟩
def cr_Hand_surely_over (c : Ad) (C : Addr) : Prop := C = c.Hand
def sp_Hand_surely_over (K : PySem.W.Frag) (c : Ad) (C : Addr) : Sp := fun vs H Q E => arg3 (fun s u v => ∃ x nm ap es, s = .ref x ∧ C = c.Hand ∧ HandAt C H x nm ap es ∧ Wf H ∧ ((∃ cl n e, u = .int cl ∧ 0 ≤ cl ∧ v = .int n ∧ 0 ≤ n ∧ valI es n = some e ∧ Q (.bl (decide (e ≤ cl - ap))) H) ∨ (Kn K H u ∧ isCountB u = false ∧ E (.ref c.NoMoment) none H) ∨ (Kn K H u ∧ isCountB u = true ∧ Kn K H v ∧ (∀ n, v = .int n → 0 ≤ n → valI es n = none) ∧ E (.ref c.NoLoan) none H))) vs
theorem ok_Hand_surely_over {P : Program} {w : World} {K : PySem.W.Frag} {mg : Str → Option Value} {base : Heap} {c : Ad} (T : Txt K mg c) {C : Addr} (hC : cr_Hand_surely_over c C) : OkM P w K mg base 4 C "surely_over" ["self", "clock", "loan"] (sp_Hand_surely_over K c C) := by
  have F : MtAt K C "surely_over" "Hand.surely_over" s_Hand_surely_over ["self", "clock", "loan"] := by
    rcases hC with rfl
    · exact T.m_Hand_surely_over
  have cl : Cls K C := by
    rcases hC with rfl
    · exact T.o_Hand.cl
  have n_name : NoAttr K C "name" := by
    rcases hC with rfl
    · exact T.n_Hand_name
  have n_apart : NoAttr K C "apart" := by
    rcases hC with rfl
    · exact T.n_Hand_apart
  have n_kept : NoAttr K C "kept" := by
    rcases hC with rfl
    · exact T.n_Hand_kept
  refine okM F sc_Hand_surely_over (fun vs H Q E h => ?_) (fun f cdv A outer sh H vs Q E hr h => ?_)
  · obtain ⟨s, u, v, rfl, h⟩ := arg3.ex h
    rfl
  · obtain ⟨s, u, v, rfl, h⟩ := arg3.ex h
    have tk : L2N.Takes (cxOf (L2N.CX P w) P w K mg base N_Hand_surely_over "Hand.surely_over" (defScope s_Hand_surely_over) f cdv A outer sh H (bE H E)) (fun cls d _ H' => bE H E cls d H') := L2N.takes_of rfl rfl rfl rfl
    refine ⟨_, pss_cons (ps_expr (pe_fS (ok_sure_clock (K := K) T) hr tk (pa_cons (lv 1) pa_nil)))
      (pss_one (ps_ret (pe_cmpR opU_ge (pe_op opU_sub (lv 1) (pe_fldK (K := K) (lv 0) rfl)) (pe_mS (CS := cs_Hand c) (lv 0) (okc_Hand T) (okm_Hand_end_of T) hr tk (pa_cons (lv 2) pa_nil)) (nomark _)))), ?_⟩
    obtain ⟨x, nm, ap, es, rfl, eC, ha, wf, g0⟩ := h
    obtain ⟨dx, dk, hx, hd⟩ := ha
    have ha : HandAt C H x nm ap es := ⟨dx, dk, hx, hd⟩
    subst eC
    rcases g0 with ⟨cl, n, e, rfl, c0, rfl, n0, hv, k⟩ | ⟨hk, hn, k⟩ | ⟨hk, hc, hk2, hn, k⟩
    · refine ⟨trivial, wf, fun _ => ?_, fun z => by rw [count_ok c0] at z; cases z⟩
      refine ⟨x, c.Hand, dx, _, _, rfl, hx, T.o_Hand.cl, T.n_Hand_apart, rfl, ?_⟩
      refine ⟨x, c.Hand, dx, _, rfl, hx, rfl, rfl, x, nm, ap, es, rfl, rfl, ha, wf, .inl ⟨n, e, rfl, n0, hv, ?_⟩⟩
      exact bQ.same wf (Same.refl _) k
    · refine ⟨hk, wf, fun z => (by rw [hn] at z; cases z), fun _ => ?_⟩
      exact bE.same wf (Same.refl _) k
    · refine ⟨hk, wf, fun _ => ?_, fun z => (by rw [hc] at z; cases z)⟩
      obtain ⟨cl, rfl⟩ : ∃ cl, u = .int cl := by
        cases u with
        | int n => exact ⟨n, rfl⟩
        | _ => cases hc
      refine ⟨x, c.Hand, dx, _, _, rfl, hx, T.o_Hand.cl, T.n_Hand_apart, rfl, ?_⟩
      refine ⟨x, c.Hand, dx, _, rfl, hx, rfl, rfl, x, nm, ap, es, rfl, rfl, ha, wf, .inr ⟨hk2, hn, ?_⟩⟩
      exact bE.same wf (Same.refl _) k
theorem okm_Hand_surely_over {P : Program} {w : World} {K : PySem.W.Frag} {mg : Str → Option Value} {base : Heap} {c : Ad} (T : Txt K mg c) : ∀ C, cs_Hand c C → OkM P w K mg base 4 C "surely_over" ["self", "clock", "loan"] (sp_Hand_surely_over K c C) := fun C h => ok_Hand_surely_over T (by
  have e : C = c.Hand := h
  exact e)

abbrev s_Hand_left : Stmt := inClass (topS 15) 6
abbrev N_Hand_left : List Str := ["self", "clock", "loan"]
theorem sc_Hand_left : FnScope N_Hand_left ["self", "clock", "loan"] (defScope s_Hand_left) := ⟨rfl, rfl, rfl, by decide +kernel, rfl, by decide +kernel, by decide +kernel⟩
def cr_Hand_left (c : Ad) (C : Addr) : Prop := C = c.Hand
def sp_Hand_left (K : PySem.W.Frag) (c : Ad) (C : Addr) : Sp := fun vs H Q E => arg3 (fun s u v => ∃ x nm ap es, s = .ref x ∧ C = c.Hand ∧ HandAt C H x nm ap es ∧ Wf H ∧ ((∃ cl n e, u = .int cl ∧ 0 ≤ cl ∧ v = .int n ∧ 0 ≤ n ∧ valI es n = some e ∧ Q (.int (if 0 < e - ap - 1 - cl then e - ap - 1 - cl else 0)) H) ∨ (Kn K H u ∧ isCountB u = false ∧ E (.ref c.NoMoment) none H) ∨ (Kn K H u ∧ isCountB u = true ∧ Kn K H v ∧ (∀ n, v = .int n → 0 ≤ n → valI es n = none) ∧ E (.ref c.NoLoan) none H))) vs
theorem ok_Hand_left {P : Program} {w : World} {K : PySem.W.Frag} {mg : Str → Option Value} {base : Heap} {c : Ad} (T : Txt K mg c) {C : Addr} (hC : cr_Hand_left c C) : OkM P w K mg base 4 C "left" ["self", "clock", "loan"] (sp_Hand_left K c C) := by
  have F : MtAt K C "left" "Hand.left" s_Hand_left ["self", "clock", "loan"] := by
    rcases hC with rfl
    · exact T.m_Hand_left
  have cl : Cls K C := by
    rcases hC with rfl
    · exact T.o_Hand.cl
  have n_name : NoAttr K C "name" := by
    rcases hC with rfl
    · exact T.n_Hand_name
  have n_apart : NoAttr K C "apart" := by
    rcases hC with rfl
    · exact T.n_Hand_apart
  have n_kept : NoAttr K C "kept" := by
    rcases hC with rfl
    · exact T.n_Hand_kept
  refine okM F sc_Hand_left (fun vs H Q E h => ?_) (fun f cdv A outer sh H vs Q E hr h => ?_)
  · obtain ⟨s, u, v, rfl, h⟩ := arg3.ex h
    rfl
  · obtain ⟨s, u, v, rfl, h⟩ := arg3.ex h
    have tk : L2N.Takes (cxOf (L2N.CX P w) P w K mg base N_Hand_left "Hand.left" (defScope s_Hand_left) f cdv A outer sh H (bE H E)) (fun cls d _ H' => bE H E cls d H') := L2N.takes_of rfl rfl rfl rfl
    refine ⟨_, pss_cons (ps_expr (pe_fS (ok_sure_clock (K := K) T) hr tk (pa_cons (lv 1) pa_nil)))
      (pss_one (ps_ret (pe_callB (callU_max2 rfl) (by rfl) T.m_max (by decide +kernel) (pa_cons pe_int (pa_cons (pe_op opU_sub (pe_op opU_sub (pe_op opU_sub (pe_mS (CS := cs_Hand c) (lv 0) (okc_Hand T) (okm_Hand_end_of T) hr tk (pa_cons (lv 2) pa_nil)) (pe_fldK (K := K) (lv 0) rfl)) pe_int) (lv 1)) pa_nil))))), ?_⟩
    obtain ⟨x, nm, ap, es, rfl, eC, ha, wf, g0⟩ := h
    obtain ⟨dx, dk, hx, hd⟩ := ha
    have ha : HandAt C H x nm ap es := ⟨dx, dk, hx, hd⟩
    subst eC
    rcases g0 with ⟨cl, n, e, rfl, c0, rfl, n0, hv, k⟩ | ⟨hk, hn, k⟩ | ⟨hk, hc, hk2, hn, k⟩
    · refine ⟨trivial, wf, fun _ => ?_, fun z => by rw [count_ok c0] at z; cases z⟩
      refine ⟨x, c.Hand, dx, _, rfl, hx, rfl, rfl, x, nm, ap, es, rfl, rfl, ha, wf, .inl ⟨n, e, rfl, n0, hv, ?_⟩⟩
      refine ⟨x, c.Hand, dx, _, _, rfl, hx, T.o_Hand.cl, T.n_Hand_apart, rfl, ?_⟩
      exact bQ.same wf (Same.refl _) k
    · refine ⟨hk, wf, fun z => (by rw [hn] at z; cases z), fun _ => ?_⟩
      exact bE.same wf (Same.refl _) k
    · refine ⟨hk, wf, fun _ => ?_, fun z => (by rw [hc] at z; cases z)⟩
      obtain ⟨cl, rfl⟩ : ∃ cl, u = .int cl := by
        cases u with
        | int n => exact ⟨n, rfl⟩
        | _ => cases hc
      refine ⟨x, c.Hand, dx, _, rfl, hx, rfl, rfl, x, nm, ap, es, rfl, rfl, ha, wf, .inr ⟨hk2, hn, ?_⟩⟩
      exact bE.same wf (Same.refl _) k
theorem okm_Hand_left {P : Program} {w : World} {K : PySem.W.Frag} {mg : Str → Option Value} {base : Heap} {c : Ad} (T : Txt K mg c) : ∀ C, cs_Hand c C → OkM P w K mg base 4 C "left" ["self", "clock", "loan"] (sp_Hand_left K c C) := fun C h => ok_Hand_left T (by
  have e : C = c.Hand := h
  exact e)

theorem HandAt.dr {C a : Addr} {H H' : Hp} {x : Addr} {nm : Str} {ap : Int} {es : List (Int × Int)} (h : HandAt C H x nm ap es) (d : Dr a H H') (s : St2 H a) : HandAt C H' x nm ap es := by
  obtain ⟨dx, dk, h1, h2⟩ := h
  exact ⟨dx, dk, d.at h1 (fun _ _ z => by cases z) s, d.at h2 (fun _ _ z => by cases z) s⟩
theorem e6i : (10 : Int) ^ Int.toNat 6 = 1000000 := by decide
theorem e12i : (10 : Int) ^ Int.toNat 12 = 1000000000000 := by decide
theorem e13i : (10 : Int) ^ Int.toNat 13 = 10000000000000 := by decide
theorem e7i : (10 : Int) ^ Int.toNat 7 = 10000000 := by decide

abbrev s__law_apart : Stmt := topS 22
abbrev N__law_apart : List Str := ["_law_state_here"]
theorem sc__law_apart : FnScope N__law_apart ["_law_state_here"] (defScope s__law_apart) := ⟨rfl, rfl, rfl, by decide +kernel, rfl, by decide +kernel, by decide +kernel⟩
def sp__law_apart (K : PySem.W.Frag) (c : Ad) : Sp := fun vs H Q E => arg1 (fun s => ∃ a, s = .ref a ∧ St2 H a ∧ Wf H ∧ ∀ n H', 0 ≤ n → n ≤ 1000000 → Dr a H H' → Q (.int n) H') vs
theorem ok__law_apart {P : Program} {w : World} {K : PySem.W.Frag} {mg : Str → Option Value} {base : Heap} {c : Ad} (T : Txt K mg c) : Ok P w K mg base 3 "_law_apart" ["_law_state_here"] (sp__law_apart K c) := by
  refine okF T.f__law_apart sc__law_apart (fun vs H Q E h => ?_) (fun f cdv A outer sh H vs Q E hr h => ?_)
  · obtain ⟨s, rfl, h⟩ := arg1.ex h
    rfl
  · obtain ⟨s, rfl, h⟩ := arg1.ex h
    have tk : L2N.Takes (cxOf (L2N.CX P w) P w K mg base N__law_apart "_law_apart" (defScope s__law_apart) f cdv A outer sh H (bE H E)) (fun cls d _ H' => bE H E cls d H') := L2N.takes_of rfl rfl rfl rfl
    refine ⟨_, pss_one (ps_ret (pe_ix (ixU (K := K)) (pe_lst (pa_cons pe_int (pa_cons (pe_f (ok__law_digit (K := K) T) hr passN (pa_cons (lv 0) (pa_cons pe_int pa_nil))) (pa_cons (pe_f (ok__law_digit (K := K) T) hr passN (pa_cons (lv 0) (pa_cons (pe_op (opU_add (K := K)) (pe_op opU_pow pe_int pe_int) pe_int) pa_nil))) (pa_cons (pe_op opU_pow pe_int pe_int) pa_nil))))) (pe_f (ok__law_digit (K := K) T) hr passN (pa_cons (lv 0) (pa_cons pe_int pa_nil))) (fun _ _ => rfl))), ?_⟩
    obtain ⟨a, rfl, s0, wf, k⟩ := h
    have d0 := Dr.refl s0 wf
    refine ⟨a, 9, rfl, rfl, d0.st, bas_lt (by decide) (by decide), d0.wf, fun r1 p1 q1 g1 l1 n1 => ?_⟩
    have d1 := d0.drawn (q := q1) n1
    generalize upd H a (stL p1 q1) = H1 at d1  ⊢
    refine ⟨⟨by decide, by decide, by decide⟩, ?_⟩
    refine ⟨a, _, rfl, rfl, d1.st, bas_lt (by decide) (by decide), d1.wf, fun r2 p2 q2 g2 l2 n2 => ?_⟩
    have d2 := d1.drawn (q := q2) n2
    generalize upd H1 a (stL p2 q2) = H2 at d2  ⊢
    have l2' : r2 < 1000001 := l2
    refine ⟨⟨by decide, by decide, by decide⟩, ?_⟩
    refine ⟨line_of (show 4 ≤ 16777216 by decide), fun x1 nx1 => ?_⟩
    have nex1 := st_ne d2.st nx1
    have d3 := d2.new (p := x1) (o := .lst [.int 0, .int r1, .int r2, .int (10 ^ Int.toNat 6)]) nx1 trivial
    have ex1 : (upd H2 x1 (.lst [.int 0, .int r1, .int r2, .int (10 ^ Int.toNat 6)])) x1 = some (.lst [.int 0, .int r1, .int r2, .int (10 ^ Int.toNat 6)]) := upd_same
    generalize upd H2 x1 (.lst [.int 0, .int r1, .int r2, .int (10 ^ Int.toNat 6)]) = H3 at d3 ex1  ⊢
    refine ⟨a, 4, rfl, rfl, d3.st, bas_lt (by decide) (by decide), d3.wf, fun r4 p4 q4 g4 l4 n4 => ?_⟩
    have d4 := d3.drawn (q := q4) n4
    replace ex1 := (upd_ne (o := stL p4 q4) nex1).trans ex1
    generalize upd H3 a (stL p4 q4) = H4 at d4 ex1 ⊢
    obtain ⟨v, hv, mv⟩ := at_lt (xs := [V.int 0, .int r1, .int r2, .int (10 ^ Int.toNat 6)]) g4 (by exact l4)
    refine ⟨_, v, .inl (.inl (.inl ex1)), hv, ?_⟩
    obtain ⟨n, rfl, h0, h1⟩ : ∃ n, v = .int n ∧ 0 ≤ n ∧ n ≤ 1000000 := by
      simp only [List.mem_cons, List.not_mem_nil, or_false] at mv
      rcases mv with rfl | rfl | rfl | rfl
      · exact ⟨_, rfl, by omega, by omega⟩
      · exact ⟨_, rfl, by omega, by omega⟩
      · exact ⟨_, rfl, by omega, by omega⟩
      · exact ⟨_, rfl, by decide, by decide⟩
    exact bQ.mk d4.wf (k n _ h0 h1 d4)

abbrev s__law_end : Stmt := topS 23
abbrev N__law_end : List Str := ["_law_state_here", "_law_base", "_law_way", "_law_few"]
theorem sc__law_end : FnScope N__law_end ["_law_state_here", "_law_base"] (defScope s__law_end) := ⟨rfl, rfl, rfl, by decide +kernel, rfl, by decide +kernel, by decide +kernel⟩
def sp__law_end (K : PySem.W.Frag) (c : Ad) : Sp := fun vs H Q E => arg2 (fun s v => ∃ a b, s = .ref a ∧ v = .int b ∧ 0 ≤ b ∧ b ≤ 10000000000000 ∧ St2 H a ∧ Wf H ∧ ∀ n H', 0 ≤ n → n ≤ 20000000000000 → Dr a H H' → Q (.int n) H') vs
theorem ok__law_end {P : Program} {w : World} {K : PySem.W.Frag} {mg : Str → Option Value} {base : Heap} {c : Ad} (T : Txt K mg c) : Ok P w K mg base 3 "_law_end" ["_law_state_here", "_law_base"] (sp__law_end K c) := by
  refine okF T.f__law_end sc__law_end (fun vs H Q E h => ?_) (fun f cdv A outer sh H vs Q E hr h => ?_)
  · obtain ⟨s, v, rfl, h⟩ := arg2.ex h
    rfl
  · obtain ⟨s, v, rfl, h⟩ := arg2.ex h
    have tk : L2N.Takes (cxOf (L2N.CX P w) P w K mg base N__law_end "_law_end" (defScope s__law_end) f cdv A outer sh H (bE H E)) (fun cls d _ H' => bE H E cls d H') := L2N.takes_of rfl rfl rfl rfl
    refine ⟨_, pss_cons (ps_set (i := 2) sc__law_end.nd rfl (.inl rfl) (pe_f (ok__law_digit (K := K) T) hr passN (pa_cons (lv 0) (pa_cons pe_int pa_nil))))
      (pss_cons (ps_set (i := 3) sc__law_end.nd rfl (.inl rfl) (pe_f (ok__law_digit (K := K) T) hr passN (pa_cons (lv 0) (pa_cons pe_int pa_nil))))
      (pss_one (ps_ret (pe_ix (ixU (K := K)) (pe_lst (pa_cons (pe_op (opU_add (K := K)) (lv 1) (lv 3)) (pa_cons (pe_callB (callU_max2 rfl) (by rfl) T.m_max (by decide +kernel) (pa_cons pe_int (pa_cons (pe_op opU_sub (lv 1) (lv 3)) pa_nil))) (pa_cons (pe_op (opU_add (K := K)) (lv 1) (lv 3)) (pa_cons (pe_f (ok__law_digit (K := K) T) hr passN (pa_cons (lv 0) (pa_cons (pe_op opU_pow pe_int pe_int) pa_nil))) (pa_cons (lv 3) pa_nil)))))) (lv 2) (fun _ _ => rfl))))), ?_⟩
    obtain ⟨a, b, rfl, rfl, b0, b1, s0, wf, k⟩ := h
    have d0 := Dr.refl s0 wf
    refine ⟨a, 5, rfl, rfl, d0.st, bas_lt (by decide) (by decide), d0.wf, fun r1 p1 q1 g1 l1 n1 => ?_⟩
    have d1 := d0.drawn (q := q1) n1
    generalize upd H a (stL p1 q1) = H1 at d1  ⊢
    refine ⟨a, 30, rfl, rfl, d1.st, bas_lt (by decide) (by decide), d1.wf, fun r2 p2 q2 g2 l2 n2 => ?_⟩
    have d2 := d1.drawn (q := q2) n2
    generalize upd H1 a (stL p2 q2) = H2 at d2  ⊢
    refine ⟨⟨by decide, by decide, by decide⟩, ?_⟩
    refine ⟨a, _, rfl, rfl, d2.st, bas_lt (by decide) (by decide), d2.wf, fun r3 p3 q3 g3 l3 n3 => ?_⟩
    have d3 := d2.drawn (q := q3) n3
    generalize upd H2 a (stL p3 q3) = H3 at d3  ⊢
    have l3' : r3 < 10000000000000 := l3
    refine ⟨line_of (show 5 ≤ 16777216 by decide), fun x1 nx1 => ?_⟩
    have nex1 := st_ne d3.st nx1
    have d4 := d3.new (p := x1) (o := .lst [.int (b + r2), .int (if b - r2 > 0 then b - r2 else 0), .int (b + r2), .int r3, .int r2]) nx1 trivial
    have ex1 : (upd H3 x1 (.lst [.int (b + r2), .int (if b - r2 > 0 then b - r2 else 0), .int (b + r2), .int r3, .int r2])) x1 = some (.lst [.int (b + r2), .int (if b - r2 > 0 then b - r2 else 0), .int (b + r2), .int r3, .int r2]) := upd_same
    generalize upd H3 x1 (.lst [.int (b + r2), .int (if b - r2 > 0 then b - r2 else 0), .int (b + r2), .int r3, .int r2]) = H4 at d4 ex1  ⊢
    obtain ⟨v, hv, mv⟩ := at_lt (xs := [V.int (b + r2), .int (if b - r2 > 0 then b - r2 else 0), .int (b + r2), .int r3, .int r2]) g1 (by exact l1)
    refine ⟨_, v, .inl (.inl (.inl ex1)), hv, ?_⟩
    obtain ⟨n, rfl, h0, h1⟩ : ∃ n, v = .int n ∧ 0 ≤ n ∧ n ≤ 20000000000000 := by
      simp only [List.mem_cons, List.not_mem_nil, or_false] at mv
      rcases mv with rfl | rfl | rfl | rfl | rfl
      · exact ⟨_, rfl, by omega, by omega⟩
      · exact ⟨_, rfl, by split <;> omega, by split <;> omega⟩
      · exact ⟨_, rfl, by omega, by omega⟩
      · exact ⟨_, rfl, by omega, by omega⟩
      · exact ⟨_, rfl, by omega, by omega⟩
    exact bQ.mk d4.wf (k n _ h0 h1 d4)

abbrev s__law_loans : Stmt := topS 24
abbrev N__law_loans : List Str := ["_law_state_here", "_law_found"]
theorem sc__law_loans : FnScope N__law_loans ["_law_state_here"] (defScope s__law_loans) := ⟨rfl, rfl, rfl, by decide +kernel, rfl, by decide +kernel, by decide +kernel⟩
def sp__law_loans (K : PySem.W.Frag) (c : Ad) : Sp := fun vs H Q E => arg1 (fun s => ∃ a, s = .ref a ∧ St2 H a ∧ Wf H ∧ ∀ R l0 l1 l2 l3 l4 H', Dr a H H' → H' R = some (.lst [.int l0, .int l1, .int l2, .int l3, .int l4]) → R ≠ a → 0 ≤ l0 → l0 < l1 → l1 < l2 → l2 < l3 → l3 < l4 → Q (.ref R) H') vs
theorem ok__law_loans {P : Program} {w : World} {K : PySem.W.Frag} {mg : Str → Option Value} {base : Heap} {c : Ad} (T : Txt K mg c) : Ok P w K mg base 3 "_law_loans" ["_law_state_here"] (sp__law_loans K c) := by
  refine okF T.f__law_loans sc__law_loans (fun vs H Q E h => ?_) (fun f cdv A outer sh H vs Q E hr h => ?_)
  · obtain ⟨s, rfl, h⟩ := arg1.ex h
    rfl
  · obtain ⟨s, rfl, h⟩ := arg1.ex h
    have tk : L2N.Takes (cxOf (L2N.CX P w) P w K mg base N__law_loans "_law_loans" (defScope s__law_loans) f cdv A outer sh H (bE H E)) (fun cls d _ H' => bE H E cls d H') := L2N.takes_of rfl rfl rfl rfl
    refine ⟨_, pss_cons (ps_set (i := 1) sc__law_loans.nd rfl (.inl rfl) (pe_lst (pa_cons pe_int (pa_cons (pe_op (opU_add (K := K)) pe_int (pe_f (ok__law_digit (K := K) T) hr passN (pa_cons (lv 0) (pa_cons pe_int pa_nil)))) (pa_cons (pe_op (opU_add (K := K)) pe_int (pe_f (ok__law_digit (K := K) T) hr passN (pa_cons (lv 0) (pa_cons pe_int pa_nil)))) (pa_cons (pe_op (opU_add (K := K)) pe_int (pe_f (ok__law_digit (K := K) T) hr passN (pa_cons (lv 0) (pa_cons (pe_op opU_pow pe_int pe_int) pa_nil)))) pa_nil))))))
      (pss_one (ps_ret (pe_op (opU_add (K := K)) (lv 1) (pe_lst (pa_cons (pe_op (opU_add (K := K)) (pe_op opU_pow pe_int pe_int) (pe_f (ok__law_digit (K := K) T) hr passN (pa_cons (lv 0) (pa_cons (pe_op opU_pow pe_int pe_int) pa_nil)))) pa_nil))))), ?_⟩
    obtain ⟨a, rfl, s0, wf, k⟩ := h
    have d0 := Dr.refl s0 wf
    refine ⟨a, 3, rfl, rfl, d0.st, bas_lt (by decide) (by decide), d0.wf, fun r1 p1 q1 g1 l1 n1 => ?_⟩
    have d1 := d0.drawn (q := q1) n1
    generalize upd H a (stL p1 q1) = H1 at d1  ⊢
    refine ⟨a, 90, rfl, rfl, d1.st, bas_lt (by decide) (by decide), d1.wf, fun r2 p2 q2 g2 l2 n2 => ?_⟩
    have d2 := d1.drawn (q := q2) n2
    generalize upd H1 a (stL p2 q2) = H2 at d2  ⊢
    refine ⟨⟨by decide, by decide, by decide⟩, ?_⟩
    refine ⟨a, _, rfl, rfl, d2.st, bas_lt (by decide) (by decide), d2.wf, fun r3 p3 q3 g3 l3 n3 => ?_⟩
    have d3 := d2.drawn (q := q3) n3
    generalize upd H2 a (stL p3 q3) = H3 at d3  ⊢
    have l3' : r3 < 1000000 := l3
    refine ⟨line_of (show 4 ≤ 16777216 by decide), fun x1 nx1 => ?_⟩
    have nex1 := st_ne d3.st nx1
    have d4 := d3.new (p := x1) (o := .lst [.int 0, .int (1 + r1), .int (9 + r2), .int (100 + r3)]) nx1 trivial
    have ex1 : (upd H3 x1 (.lst [.int 0, .int (1 + r1), .int (9 + r2), .int (100 + r3)])) x1 = some (.lst [.int 0, .int (1 + r1), .int (9 + r2), .int (100 + r3)]) := upd_same
    generalize upd H3 x1 (.lst [.int 0, .int (1 + r1), .int (9 + r2), .int (100 + r3)]) = H4 at d4 ex1  ⊢
    refine ⟨⟨by decide, by decide, by decide⟩, ⟨by decide, by decide, by decide⟩, ?_⟩
    refine ⟨a, _, rfl, rfl, d4.st, bas_lt (by decide) (by decide), d4.wf, fun r5 p5 q5 g5 l5 n5 => ?_⟩
    have d5 := d4.drawn (q := q5) n5
    replace ex1 := (upd_ne (o := stL p5 q5) nex1).trans ex1
    generalize upd H4 a (stL p5 q5) = H5 at d5 ex1 ⊢
    refine ⟨line_of (show 1 ≤ 16777216 by decide), fun x2 nx2 => ?_⟩
    have nex2 := st_ne d5.st nx2
    have d6 := d5.new (p := x2) (o := .lst [.int (10 ^ Int.toNat 7 + r5)]) nx2 trivial
    replace ex1 := same_new (o := .lst [.int (10 ^ Int.toNat 7 + r5)]) nx2 _ _ ex1
    have ex2 : (upd H5 x2 (.lst [.int (10 ^ Int.toNat 7 + r5)])) x2 = some (.lst [.int (10 ^ Int.toNat 7 + r5)]) := upd_same
    generalize upd H5 x2 (.lst [.int (10 ^ Int.toNat 7 + r5)]) = H6 at d6 ex2 ex1 ⊢
    refine .inl ⟨x1, x2, _, _, rfl, rfl, ex1, ex2, line_of (show 5 ≤ 16777216 by decide), fun y ny => ?_⟩
    have ney := st_ne d6.st ny
    have d7 := d6.new (p := y) (o := .lst ([V.int 0, .int (1 + r1), .int (9 + r2), .int (100 + r3)] ++ [V.int (10 ^ Int.toNat 7 + r5)])) ny trivial
    have ey : (upd H6 y (.lst ([V.int 0, .int (1 + r1), .int (9 + r2), .int (100 + r3)] ++ [V.int (10 ^ Int.toNat 7 + r5)]))) y = some (.lst ([V.int 0, .int (1 + r1), .int (9 + r2), .int (100 + r3)] ++ [V.int (10 ^ Int.toNat 7 + r5)])) := upd_same
    generalize upd H6 y (.lst ([V.int 0, .int (1 + r1), .int (9 + r2), .int (100 + r3)] ++ [V.int (10 ^ Int.toNat 7 + r5)])) = H7 at d7 ey  ⊢
    have e7 : (10 : Int) ^ Int.toNat 7 = 10000000 := by decide
    rw [e7] at ey
    exact bQ.mk d7.wf (k y 0 (1 + r1) (9 + r2) (100 + r3) (10000000 + r5) _ d7 ey ney (by omega) (by omega) (by omega) (by omega) (by omega))

def tellsI (es : List (Int × Int)) (ap cl : Int) : List Int := PySem.W.sortI ((es.filter fun p => decide (cl - ap < p.2)).map (·.1))
theorem kvI_at {es : List (Int × Int)} {i : Nat} {x y : V} (hx : ((kvI es)[i]?.map fun kv => kV kv.1) = some x) (hy : ((kvI es)[i]?.map Prod.snd) = some y) : ∃ l e, es[i]? = some (l, e) ∧ x = .int l ∧ y = .int e := by
  unfold kvI at hx hy
  rw [List.getElem?_map] at hx hy
  cases h : es[i]? with
  | none => rw [h] at hx; cases hx
  | some p =>
    rw [h] at hx hy
    cases hx
    cases hy
    exact ⟨p.1, p.2, rfl, rfl, rfl⟩
theorem take_snoc {α : Type} {es : List α} {i : Nat} {p : α} (h : es[i]? = some p) : es.take (i + 1) = es.take i ++ [p] := by
  rw [List.take_succ, h]
  rfl

abbrev s_Hand_forgets : Stmt := inClass (topS 15) 3
abbrev N_Hand_forgets : List Str := ["self", "loan"]
theorem sc_Hand_forgets : FnScope N_Hand_forgets ["self", "loan"] (defScope s_Hand_forgets) := ⟨rfl, rfl, rfl, by decide +kernel, rfl, by decide +kernel, by decide +kernel⟩
def cr_Hand_forgets (c : Ad) (C : Addr) : Prop := C = c.Hand
def sp_Hand_forgets (K : PySem.W.Frag) (c : Ad) (C : Addr) : Sp := fun vs H Q E => arg2 (fun s v => ∃ x nm ap es, s = .ref x ∧ C = c.Hand ∧ HandAt C H x nm ap es ∧ Wf H ∧ ((∃ n e, v = .int n ∧ 0 ≤ n ∧ valI es n = some e ∧ ∀ dx dk, H x = some (.ins C dx (fsH nm ap dk)) → H dk = some (.dK (kvI es)) → Q .non (upd H dk (.dK (kvI (dropI es n))))) ∨ (Kn K H v ∧ (∀ n, v = .int n → 0 ≤ n → valI es n = none) ∧ E (.ref c.NoLoan) none H))) vs
theorem ok_Hand_forgets {P : Program} {w : World} {K : PySem.W.Frag} {mg : Str → Option Value} {base : Heap} {c : Ad} (T : Txt K mg c) {C : Addr} (hC : cr_Hand_forgets c C) : OkM P w K mg base 4 C "forgets" ["self", "loan"] (sp_Hand_forgets K c C) := by
  have F : MtAt K C "forgets" "Hand.forgets" s_Hand_forgets ["self", "loan"] := by
    rcases hC with rfl
    · exact T.m_Hand_forgets
  have cl : Cls K C := by
    rcases hC with rfl
    · exact T.o_Hand.cl
  have n_name : NoAttr K C "name" := by
    rcases hC with rfl
    · exact T.n_Hand_name
  have n_apart : NoAttr K C "apart" := by
    rcases hC with rfl
    · exact T.n_Hand_apart
  have n_kept : NoAttr K C "kept" := by
    rcases hC with rfl
    · exact T.n_Hand_kept
  refine okM F sc_Hand_forgets (fun vs H Q E h => ?_) (fun f cdv A outer sh H vs Q E hr h => ?_)
  · obtain ⟨s, v, rfl, h⟩ := arg2.ex h
    rfl
  · obtain ⟨s, v, rfl, h⟩ := arg2.ex h
    have tk : L2N.Takes (cxOf (L2N.CX P w) P w K mg base N_Hand_forgets "Hand.forgets" (defScope s_Hand_forgets) f cdv A outer sh H (bE H E)) (fun cls d _ H' => bE H E cls d H') := L2N.takes_of rfl rfl rfl rfl
    refine ⟨_, pss_cons (ps_expr (pe_mS (CS := cs_Hand c) (lv 0) (okc_Hand T) (okm_Hand_end_of T) hr tk (pa_cons (lv 1) pa_nil)))
      (pss_one (ps_expr (pe_dpop1 (pe_fldK (K := K) (lv 0) rfl) (lv 1) ⟨by rfl, by rfl, by rfl, by rfl⟩))), ?_⟩
    obtain ⟨x, nm, ap, es, rfl, eC, ha, wf, g0⟩ := h
    obtain ⟨dx, dk, hx, hd⟩ := id ha
    subst eC
    rcases g0 with ⟨n, e, rfl, n0, hv, k⟩ | ⟨hk, hn, k⟩
    · refine ⟨x, c.Hand, dx, _, rfl, hx, rfl, rfl, x, nm, ap, es, rfl, rfl, ha, wf, .inl ⟨n, e, rfl, n0, hv, ?_⟩⟩
      refine ⟨x, c.Hand, dx, _, _, rfl, hx, T.o_Hand.cl, T.n_Hand_kept, rfl, ?_⟩
      refine ⟨dk, rfl, .inl ⟨_, .inl hd⟩, kvI es, .inl n, .int e, hd, rfl, by rw [kvI_val, hv]; rfl, ?_⟩
      rw [kvI_drop]
      exact bQ.mk (wf.at trivial hd fun _ z => by cases z) (k dx dk hx hd)
    · refine ⟨x, c.Hand, dx, _, rfl, hx, rfl, rfl, x, nm, ap, es, rfl, rfl, ha, wf, .inr ⟨hk, hn, ?_⟩⟩
      exact bE.same wf (Same.refl _) k
theorem okm_Hand_forgets {P : Program} {w : World} {K : PySem.W.Frag} {mg : Str → Option Value} {base : Heap} {c : Ad} (T : Txt K mg c) : ∀ C, cs_Hand c C → OkM P w K mg base 4 C "forgets" ["self", "loan"] (sp_Hand_forgets K c C) := fun C h => ok_Hand_forgets T (by
  have e : C = c.Hand := h
  exact e)

abbrev s_Hand_tells : Stmt := inClass (topS 15) 7
abbrev N_Hand_tells : List Str := ["self", "clock", "loan", "end"]
theorem sc_Hand_tells : FnScope N_Hand_tells ["self", "clock"] (defScope s_Hand_tells) := ⟨rfl, rfl, rfl, by decide +kernel, rfl, by decide +kernel, by decide +kernel⟩
def cr_Hand_tells (c : Ad) (C : Addr) : Prop := C = c.Hand
def sp_Hand_tells (K : PySem.W.Frag) (c : Ad) (C : Addr) : Sp := fun vs H Q E => arg2 (fun s u => ∃ x nm ap es, s = .ref x ∧ C = c.Hand ∧ HandAt C H x nm ap es ∧ es.length ≤ 1000 ∧ Wf H ∧ ((∃ cl, u = .int cl ∧ 0 ≤ cl ∧ ∀ p H', H' p = some (.lst ((tellsI es ap cl).map V.int)) → H p = none → Same H H' → Wf H' → Q (.ref p) H') ∨ (Kn K H u ∧ isCountB u = false ∧ E (.ref c.NoMoment) none H))) vs
theorem ok_Hand_tells {P : Program} {w : World} {K : PySem.W.Frag} {mg : Str → Option Value} {base : Heap} {c : Ad} (T : Txt K mg c) {C : Addr} (hC : cr_Hand_tells c C) : OkM P w K mg base 4 C "tells" ["self", "clock"] (sp_Hand_tells K c C) := by
  have F : MtAt K C "tells" "Hand.tells" s_Hand_tells ["self", "clock"] := by
    rcases hC with rfl
    · exact T.m_Hand_tells
  have cl : Cls K C := by
    rcases hC with rfl
    · exact T.o_Hand.cl
  have n_name : NoAttr K C "name" := by
    rcases hC with rfl
    · exact T.n_Hand_name
  have n_apart : NoAttr K C "apart" := by
    rcases hC with rfl
    · exact T.n_Hand_apart
  have n_kept : NoAttr K C "kept" := by
    rcases hC with rfl
    · exact T.n_Hand_kept
  refine okM F sc_Hand_tells (fun vs H Q E h => ?_) (fun f cdv A outer sh H vs Q E hr h => ?_)
  · obtain ⟨s, u, rfl, h⟩ := arg2.ex h
    rfl
  · obtain ⟨s, u, rfl, h⟩ := arg2.ex h
    have tk : L2N.Takes (cxOf (L2N.CX P w) P w K mg base N_Hand_tells "Hand.tells" (defScope s_Hand_tells) f cdv A outer sh H (bE H E)) (fun cls d _ H' => bE H E cls d H') := L2N.takes_of rfl rfl rfl rfl
    refine ⟨_, pss_cons (ps_expr (pe_fS (ok_sure_clock (K := K) T) hr tk (pa_cons (lv 1) pa_nil)))
      (pss_one (ps_ret (pe_callB cr_sortedI (by rfl) T.m_sorted (by decide +kernel) (pa_cons (pe_lock (pe_lc (own := [("loan", 2), ("end", 3)]) (g := _) rfl sc_Hand_tells.nd (pi_items (pe_fldK (K := K) (lv 0) rfl)) (blkOk_by (own := [("loan", 2), ("end", 3)]) (N := N_Hand_tells) (sc := defScope s_Hand_tells) (by decide +kernel)) (fun _ _ _ _ _ => pg_tupK (K := K) (n := 2) rfl (pgs_cons (pg_name (i := 2) sc_Hand_tells.nd rfl (.inl rfl)) (pgs_cons (pg_name (i := 3) sc_Hand_tells.nd rfl (.inl rfl)) pgs_nil))) (fun _ _ _ _ _ => pts_one (pt_cmpU opU_lt (pe_op opU_sub (lv 1) (pe_fldK (K := K) (lv 0) rfl)) (lv 3) (nomark _))) (fun _ _ _ _ _ => lv 2))) pa_nil)))), ?_⟩
    obtain ⟨x, nm, ap, es, rfl, eC, ha, le, wf, g0⟩ := h
    obtain ⟨dx, dk, hx, hd⟩ := id ha
    subst eC
    rcases g0 with ⟨cl, rfl, c0, k⟩ | ⟨hk, hn, k⟩
    · refine ⟨trivial, wf, fun _ => ?_, fun z => by rw [count_ok c0] at z; cases z⟩
      have nxd : x ≠ dk := ne_of hx hd fun z => by cases z
      refine ⟨dk, _, hd, trivial, fun od => ?_⟩
      have hx1 : (upd H dk (.frz od (.dK (kvI es)))) x = some (.ins c.Hand dx (fsH nm ap dk)) := by rw [upd_ne nxd]; exact hx
      have hd1 : (upd H dk (.frz od (.dK (kvI es)))) dk = some (.frz od (.dK (kvI es))) := upd_same
      have kp1 : ∀ b o, b ≠ dk → H b = some o → (upd H dk (.frz od (.dK (kvI es)))) b = some o := fun b o n e => by rw [upd_ne n]; exact e
      have w1 : Wf (upd H dk (.frz od (.dK (kvI es)))) := wf.at trivial hd fun _ z => by cases z
      have nn1 : ∀ b, (upd H dk (.frz od (.dK (kvI es)))) b = none → H b = none := fun b e => by
        have : b ≠ dk := fun z => by rw [z, hd1] at e; cases e
        rw [upd_ne this] at e
        exact e
      generalize upd H dk (.frz od (.dK (kvI es))) = H1 at hx1 hd1 kp1 w1 nn1 ⊢
      refine ⟨x, c.Hand, dx, _, _, rfl, hx1, T.o_Hand.cl, T.n_Hand_kept, rfl, ?_⟩
      refine ⟨dk, od, kvI es, rfl, hd1, fun D nD => ?_⟩
      have nDd : D ≠ dk := fun z => by rw [z, hd1] at nD; cases nD
      refine lc_it (walk_items (d := dk) (o := od) (kvs := kvI es)) (fun i H' => H' D = some (.lst (((es.take i).filter fun p => decide (cl - ap < p.2)).map fun p => V.int p.1)) ∧ Same H1 H' ∧ Wf H') ⟨upd_same, same_new nD, w1.new trivial nD⟩ (fun i H' _ h => h.2.1 _ _ hd1) (fun i v H2 H3 hi hp hy => ?_) (fun H' hp => ?_)
      · obtain ⟨eD, sm, w2⟩ := hp
        obtain ⟨t, x1, y1, rfl, nt, rfl, hx2, hy2⟩ := hy
        obtain ⟨l, e, hes, rfl, rfl⟩ := kvI_at hx2 hy2
        have smT := same_new (o := .tup [.int l, .int e]) nt
        have w3 := w2.new (o := .tup [.int l, .int e]) trivial nt
        have et : (upd H2 t (.tup [.int l, .int e])) t = some (.tup [.int l, .int e]) := upd_same
        have eD3 := smT _ _ eD
        have sm3 := sm.trans smT
        generalize upd H2 t (.tup [.int l, .int e]) = H3 at w3 et eD3 sm3 ⊢
        refine ⟨t, _, rfl, .inl (.inl et), rfl, _, _, rfl, _, _, rfl, rfl, rfl, ?_⟩
        refine ⟨x, c.Hand, dx, _, _, rfl, sm3 _ _ hx1, T.o_Hand.cl, T.n_Hand_apart, rfl, ?_⟩
        have lacc : (((es.take i).filter fun p => decide (cl - ap < p.2)).map fun p => V.int p.1).length < sizeLine := line_lt (by
          rw [List.length_map]
          have := List.length_filter_le (fun p : Int × Int => decide (cl - ap < p.2)) (es.take i)
          rw [List.length_take] at this
          omega)
        refine iteC (p := cl - ap < e) (fun h1 => ?_) (fun h1 => ?_)
        · refine ⟨_, eD3, lacc, ?_, fun b o eb => ?_, ?_⟩
          · rw [upd_same, take_snoc hes, List.filter_append, List.map_append]
            simp [h1]
          · rw [upd_ne (ne_of_none eb nD)]
            exact sm3 b o eb
          · exact w3.at trivial eD3 fun _ z => by cases z
        · refine ⟨?_, sm3, w3⟩
          rw [take_snoc hes, List.filter_append, List.map_append]
          simp [h1]
          simpa using eD3
      · obtain ⟨eD, sm, w2⟩ := hp
        have hd2 := sm _ _ hd1
        refine ⟨hd2, ?_⟩
        rw [kvI_len, List.take_length] at eD
        have sm2 : Same H (upd H' dk (.dK (kvI es))) := fun b o e => by
          by_cases hb : b = dk
          · subst hb
            rw [hd] at e
            cases e
            exact upd_same
          · rw [upd_ne hb]
            exact sm _ _ (kp1 b o hb e)
        have w3 : Wf (upd H' dk (.dK (kvI es))) := w2.at trivial hd2 fun _ z => by cases z
        have eD2 : (upd H' dk (.dK (kvI es))) D = some (.lst (((es.filter fun p => decide (cl - ap < p.2)).map (·.1)).map V.int)) := by
          rw [upd_ne nDd, eD, List.map_map]
          rfl
        generalize upd H' dk (.dK (kvI es)) = H4 at sm2 w3 eD2 ⊢
        refine ⟨D, _, rfl, .inl (.inl eD2), fun ns' p perm srt np => ?_⟩
        have en : ns' = tellsI es ap cl := PySem.W.eq_sortI perm srt
        subst en
        have npH : H p = none := by
          cases e : H p with
          | none => rfl
          | some o =>
            have := sm2 p o e
            rw [np] at this
            cases this
        exact bQ.mk (w3.new trivial np) (k p _ upd_same npH (sm2.trans (same_new np)) (w3.new trivial np))
    · refine ⟨hk, wf, fun z => (by rw [hn] at z; cases z), fun _ => ?_⟩
      exact bE.same wf (Same.refl _) k
theorem okm_Hand_tells {P : Program} {w : World} {K : PySem.W.Frag} {mg : Str → Option Value} {base : Heap} {c : Ad} (T : Txt K mg c) : ∀ C, cs_Hand c C → OkM P w K mg base 4 C "tells" ["self", "clock"] (sp_Hand_tells K c C) := fun C h => ok_Hand_tells T (by
  have e : C = c.Hand := h
  exact e)

def leastP : List (Int × Int) → Option (Int × Int)
  | [] => none
  | p :: r => some (match leastP r with | none => p | some q => if SrtO.lexB q p then q else p)
theorem leastP_of : ∀ {ps : List (Int × Int)} {y : Int × Int}, y ∈ ps → (∀ q ∈ ps, SrtO.lexB q y = false) → leastP ps = some y
  | p :: r, y, hy, h => by
    show some _ = some y
    congr 1
    have key : ∀ {a b : Int × Int}, SrtO.lexB a b = false → SrtO.lexB b a = false → a = b := fun {a b} h1 h2 => by
      have h1 := SrtO.lexB_no.mp h1
      have h2 := SrtO.lexB_no.mp h2
      have : a.1 = b.1 ∧ a.2 = b.2 := by omega
      exact Prod.ext this.1 this.2
    by_cases hr : y ∈ r
    · rw [leastP_of hr fun q hq => h q (List.mem_cons_of_mem _ hq)]
      show (if SrtO.lexB y p then y else p) = y
      split
      · rfl
      · rename_i g
        exact key (h p List.mem_cons_self) (by simpa using g)
    · have : y = p := by
        rcases List.mem_cons.mp hy with e | e
        · exact e
        · exact absurd e hr
      subst this
      cases e : leastP r with
      | none => rfl
      | some q =>
        show (if SrtO.lexB q y then q else y) = y
        have hq : q ∈ r := by
          clear h hy hr
          induction r generalizing q with
          | nil => cases e
          | cons a r ih =>
            have e' : some (match leastP r with | none => a | some q => if SrtO.lexB q a then q else a) = some q := e
            cases er : leastP r with
            | none =>
              rw [er] at e'
              cases e'
              exact List.mem_cons_self
            | some q' =>
              rw [er] at e'
              have e2 := Option.some.inj e'
              have e3 : (if SrtO.lexB q' a then q' else a) = q := e2
              split at e3
              · subst e3
                exact List.mem_cons_of_mem _ (ih _ er)
              · subst e3
                exact List.mem_cons_self
        rw [if_neg (by rw [h q (List.mem_cons_of_mem _ hq)]; exact Bool.false_ne_true)]
/-- the loan of the least end, of like ones of the least number -/
def soonI (es : List (Int × Int)) : Option Int := (leastP (es.map fun p => (p.2, p.1))).map (·.2)
def optI : Option Int → V | none => .non | some n => .int n
def kOf (H : Hp) (v : V) : Int × Int := match v with
  | .ref t => (match H t with | some (.tup [.int a, .int b]) => (a, b) | _ => (0, 0))
  | _ => (0, 0)
theorem pairs_shaped (ps : List (Int × Int)) : SeqAt.shaped (.list (ps.map fun p => .tuple [.int p.1, .int p.2])) = true := by
  have h1 : PyData.canLayAll0 (ps.map fun p => .tuple [.int p.1, .int p.2]) = true := by
    induction ps with
    | nil => rfl
    | cons p r ih =>
      show (true && _) = true
      rw [ih]
      rfl
  have h2 : PyData.depthAll (ps.map fun p => .tuple [.int p.1, .int p.2]) ≤ 1 := by
    clear h1
    induction ps with
    | nil => exact Nat.zero_le _
    | cons p r ih =>
      show max 1 _ ≤ 1
      omega
  unfold SeqAt.shaped
  show (PyData.canLayAll0 _ && decide (PyData.depthAll _ + 1 ≤ 64)) = true
  rw [h1, decide_eq_true (by omega)]
  rfl
theorem pairs_dp {K : PySem.W.Frag} {H : Hp} {k : V → Int × Int} : ∀ {ys : List V}, (∀ y ∈ ys, ∃ t, y = V.ref t ∧ H t = some (.tup [.int (k y).1, .int (k y).2])) → DpAll K H ys ((ys.map k).map fun p => .tuple [.int p.1, .int p.2])
  | [], _ => .nil
  | y :: r, h => by
    obtain ⟨t, e, ht⟩ := h y List.mem_cons_self
    refine .cons ?_ (pairs_dp fun x hx => h x (List.mem_cons_of_mem _ hx))
    rw [show y = V.ref t from e]
    rw [e] at ht
    exact .tup (.inl (.inl ht)) (.cons (.int _) (.cons (.int _) .nil))

abbrev s_Hand_soonest : Stmt := inClass (topS 15) 8
abbrev N_Hand_soonest : List Str := ["self", "rows", "loan", "end"]
theorem sc_Hand_soonest : FnScope N_Hand_soonest ["self"] (defScope s_Hand_soonest) := ⟨rfl, rfl, rfl, by decide +kernel, rfl, by decide +kernel, by decide +kernel⟩
def cr_Hand_soonest (c : Ad) (C : Addr) : Prop := C = c.Hand
def sp_Hand_soonest (K : PySem.W.Frag) (c : Ad) (C : Addr) : Sp := fun vs H Q E => arg1 (fun s => ∃ x nm ap es, s = .ref x ∧ C = c.Hand ∧ HandAt C H x nm ap es ∧ es.length ≤ 1000 ∧ Wf H ∧ Q (optI (soonI es)) H) vs
theorem ok_Hand_soonest {P : Program} {w : World} {K : PySem.W.Frag} {mg : Str → Option Value} {base : Heap} {c : Ad} (T : Txt K mg c) {C : Addr} (hC : cr_Hand_soonest c C) : OkM P w K mg base 1 C "soonest" ["self"] (sp_Hand_soonest K c C) := by
  have F : MtAt K C "soonest" "Hand.soonest" s_Hand_soonest ["self"] := by
    rcases hC with rfl
    · exact T.m_Hand_soonest
  have cl : Cls K C := by
    rcases hC with rfl
    · exact T.o_Hand.cl
  have n_name : NoAttr K C "name" := by
    rcases hC with rfl
    · exact T.n_Hand_name
  have n_apart : NoAttr K C "apart" := by
    rcases hC with rfl
    · exact T.n_Hand_apart
  have n_kept : NoAttr K C "kept" := by
    rcases hC with rfl
    · exact T.n_Hand_kept
  refine okM F sc_Hand_soonest (fun vs H Q E h => ?_) (fun f cdv A outer sh H vs Q E hr h => ?_)
  · obtain ⟨s, rfl, h⟩ := arg1.ex h
    rfl
  · obtain ⟨s, rfl, h⟩ := arg1.ex h
    have tk : L2N.Takes (cxOf (L2N.CX P w) P w K mg base N_Hand_soonest "Hand.soonest" (defScope s_Hand_soonest) f cdv A outer sh H (bE H E)) (fun cls d _ H' => bE H E cls d H') := L2N.takes_of rfl rfl rfl rfl
    refine ⟨_, pss_cons (ps_set (i := 1) sc_Hand_soonest.nd rfl (.inl rfl) (pe_callB cr_sortedPO (by rfl) T.m_sorted (by decide +kernel) (pa_cons (pe_lock (pe_lc (own := [("loan", 2), ("end", 3)]) (g := _) rfl sc_Hand_soonest.nd (pi_items (pe_fldK (K := K) (lv 0) rfl)) (blkOk_by (own := [("loan", 2), ("end", 3)]) (N := N_Hand_soonest) (sc := defScope s_Hand_soonest) (by decide +kernel)) (fun _ _ _ _ _ => pg_tupK (K := K) (n := 2) rfl (pgs_cons (pg_name (i := 2) sc_Hand_soonest.nd rfl (.inl rfl)) (pgs_cons (pg_name (i := 3) sc_Hand_soonest.nd rfl (.inl rfl)) pgs_nil))) (fun _ _ _ _ _ => pts_nil) (fun _ _ _ _ _ => pe_tup (pa_cons (lv 3) (pa_cons (lv 2) pa_nil))))) pa_nil)))
      (pss_cons (ps_if (pt_cmpU (opU_eq (K := K) hr) (lv 1) (pe_lst pa_nil) (nomark _))
      (pss_one (ps_ret pe_non)) pss_nil)
      (pss_one (ps_ret (pe_ix (ixU (K := K)) (pe_ix (ixU (K := K)) (lv 1) pe_int (fun _ _ => rfl)) pe_int (fun _ _ => rfl))))), ?_⟩
    obtain ⟨x, nm, ap, es, rfl, eC, ha, le, wf, k⟩ := h
    obtain ⟨dx, dk, hx, hd⟩ := id ha
    subst eC
    have nxd : x ≠ dk := ne_of hx hd fun z => by cases z
    refine ⟨dk, _, hd, trivial, fun od => ?_⟩
    have hx1 : (upd H dk (.frz od (.dK (kvI es)))) x = some (.ins c.Hand dx (fsH nm ap dk)) := by rw [upd_ne nxd]; exact hx
    have hd1 : (upd H dk (.frz od (.dK (kvI es)))) dk = some (.frz od (.dK (kvI es))) := upd_same
    have kp1 : ∀ b o, b ≠ dk → H b = some o → (upd H dk (.frz od (.dK (kvI es)))) b = some o := fun b o n e => by rw [upd_ne n]; exact e
    have w1 : Wf (upd H dk (.frz od (.dK (kvI es)))) := wf.at trivial hd fun _ z => by cases z
    generalize upd H dk (.frz od (.dK (kvI es))) = H1 at hx1 hd1 kp1 w1 ⊢
    refine ⟨x, c.Hand, dx, _, _, rfl, hx1, T.o_Hand.cl, T.n_Hand_kept, rfl, ?_⟩
    refine ⟨dk, od, kvI es, rfl, hd1, fun D nD => ?_⟩
    have nDd : D ≠ dk := fun z => by rw [z, hd1] at nD; cases nD
    refine lc_it (walk_items (d := dk) (o := od) (kvs := kvI es)) (fun i H' => ∃ vs : List V, H' D = some (.lst vs) ∧ Al2 (fun v (p : Int × Int) => ∃ t, v = .ref t ∧ H' t = some (.tup [.int p.2, .int p.1])) vs (es.take i) ∧ Same H1 H' ∧ Wf H') ⟨[], upd_same, .nil, same_new nD, w1.new trivial nD⟩ (fun i H' _ h => by obtain ⟨_, _, _, h, _⟩ := h; exact h _ _ hd1) (fun i v H2 H3 hi hp hy => ?_) (fun H' hp => ?_)
    · obtain ⟨vs, eD, hal, sm, w2⟩ := hp
      obtain ⟨t, x1, y1, rfl, nt, rfl, hx2, hy2⟩ := hy
      obtain ⟨l, e, hes, rfl, rfl⟩ := kvI_at hx2 hy2
      have smT := same_new (o := .tup [.int l, .int e]) nt
      have w3 := w2.new (o := .tup [.int l, .int e]) trivial nt
      have et : (upd H2 t (.tup [.int l, .int e])) t = some (.tup [.int l, .int e]) := upd_same
      replace eD := smT _ _ eD
      have sm3 := sm.trans smT
      replace hal := hal.mono (P' := fun v (p : Int × Int) => ∃ t', v = .ref t' ∧ (upd H2 t (.tup [.int l, .int e])) t' = some (.tup [.int p.2, .int p.1])) fun v p ⟨t', e1, e2⟩ => ⟨t', e1, smT _ _ e2⟩
      generalize upd H2 t (.tup [.int l, .int e]) = H3 at w3 et eD sm3 hal ⊢
      refine ⟨t, _, rfl, .inl (.inl et), rfl, _, _, rfl, _, _, rfl, rfl, rfl, ?_⟩
      refine ⟨line_of (show 2 ≤ 16777216 by decide), fun q nq => ?_⟩
      have smQ := same_new (o := .tup [.int e, .int l]) nq
      have w4 := w3.new (o := .tup [.int e, .int l]) trivial nq
      have eq : (upd H3 q (.tup [.int e, .int l])) q = some (.tup [.int e, .int l]) := upd_same
      replace eD := smQ _ _ eD
      have sm4 := sm3.trans smQ
      replace hal := hal.mono (P' := fun v (p : Int × Int) => ∃ t', v = .ref t' ∧ (upd H3 q (.tup [.int e, .int l])) t' = some (.tup [.int p.2, .int p.1])) fun v p ⟨t', e1, e2⟩ => ⟨t', e1, smQ _ _ e2⟩
      generalize upd H3 q (.tup [.int e, .int l]) = H4 at w4 eq eD sm4 hal ⊢
      have lv : vs.length ≤ 1000 := by
        rw [hal.len, List.length_take]
        omega
      refine ⟨vs, eD, line_lt (by omega), vs ++ [V.ref q], upd_same, ?_, fun b o eb => ?_, w4.at trivial eD fun _ z => by cases z⟩
      · rw [take_snoc hes]
        have f : ∀ (v : V) (p : Int × Int), (∃ t', v = .ref t' ∧ H4 t' = some (.tup [.int p.2, .int p.1])) → ∃ t', v = .ref t' ∧ (upd H4 D (.lst (vs ++ [V.ref q]))) t' = some (.tup [.int p.2, .int p.1]) := fun v p ⟨t', e1, e2⟩ => ⟨t', e1, by rw [upd_ne (ne_of e2 eD fun z => by cases z)]; exact e2⟩
        exact (hal.mono f).snoc (f _ _ ⟨q, rfl, eq⟩)
      · rw [upd_ne (ne_of_none eb nD)]
        exact sm4 b o eb
    · obtain ⟨vs, eD, hal, sm, w2⟩ := hp
      have hd2 := sm _ _ hd1
      refine ⟨hd2, ?_⟩
      rw [kvI_len, List.take_length] at hal
      have sm2 : Same H (upd H' dk (.dK (kvI es))) := fun b o e => by
        by_cases hb : b = dk
        · subst hb
          rw [hd] at e
          cases e
          exact upd_same
        · rw [upd_ne hb]
          exact sm _ _ (kp1 b o hb e)
      have w3 : Wf (upd H' dk (.dK (kvI es))) := w2.at trivial hd2 fun _ z => by cases z
      have eD2 : (upd H' dk (.dK (kvI es))) D = some (.lst vs) := by
        rw [upd_ne nDd, eD]
      replace hal := hal.mono (P' := fun v (p : Int × Int) => ∃ t', v = .ref t' ∧ (upd H' dk (.dK (kvI es))) t' = some (.tup [.int p.2, .int p.1])) fun v p ⟨t', e1, e2⟩ => ⟨t', e1, by rw [upd_ne (ne_of e2 hd2 fun z => by cases z)]; exact e2⟩
      generalize upd H' dk (.dK (kvI es)) = H4 at sm2 w3 eD2 hal ⊢
      have hk : ∀ {v : V} {p : Int × Int}, (∃ t', v = .ref t' ∧ H4 t' = some (.tup [.int p.2, .int p.1])) → kOf H4 v = (p.2, p.1) := fun {v p} ⟨t', e1, e2⟩ => by
        subst e1
        unfold kOf
        simp only [e2]
      have hks : vs.map (kOf H4) = es.map fun p => (p.2, p.1) := by
        clear le k ha hd hd1 eD hd2 sm2 sm eD2
        induction hal with
        | nil => rfl
        | cons h _ ih => rw [List.map_cons, List.map_cons, hk h, ih]
      refine ⟨D, vs, kOf H4, rfl, .inl (.inl eD2), fun v hv => ?_, fun ys p srt stb np => ?_⟩
      · obtain ⟨q, hq, t', e1, e2⟩ := hal.mem hv
        refine ⟨t', e1, ?_⟩
        rw [hk ⟨t', e1, e2⟩]
        exact e2
      · have hys : ∀ y ∈ ys, ∃ t, y = V.ref t ∧ H4 t = some (.tup [.int (kOf H4 y).1, .int (kOf H4 y).2]) := fun y hy => by
          obtain ⟨q, hq, t', e1, e2⟩ := hal.mem (stb.perm.mem_iff.mp hy)
          refine ⟨t', e1, ?_⟩
          rw [hk ⟨t', e1, e2⟩]
          exact e2
        have smP := same_new (o := .lst ys) np
        have hys2 : ∀ y ∈ ys, ∃ t, y = V.ref t ∧ (upd H4 p (.lst ys)) t = some (.tup [.int (kOf H4 y).1, .int (kOf H4 y).2]) := fun y hy => by
          obtain ⟨t, e1, e2⟩ := hys y hy
          exact ⟨t, e1, smP _ _ e2⟩
        have w4 := w3.new (o := .lst ys) trivial np
        have ep : (upd H4 p (.lst ys)) p = some (.lst ys) := upd_same
        have sm4 := sm2.trans smP
        generalize upd H4 p (.lst ys) = H5 at hys2 w4 ep sm4 ⊢
        refine ⟨line_of (show 0 ≤ 16777216 by decide), fun e ne => ?_⟩
        have smE := same_new (o := .lst []) ne
        have hys3 : ∀ y ∈ ys, ∃ t, y = V.ref t ∧ (upd H5 e (.lst [])) t = some (.tup [.int (kOf H4 y).1, .int (kOf H4 y).2]) := fun y hy => by
          obtain ⟨t, e1, e2⟩ := hys2 y hy
          exact ⟨t, e1, smE _ _ e2⟩
        refine ⟨.list ((ys.map (kOf H4)).map fun p => .tuple [.int p.1, .int p.2]), .list [], .lst (.inl (.inl (smE _ _ ep))) (pairs_dp hys3), .lst (.inl (.inl upd_same)) .nil, pairs_shaped _, rfl, ?_⟩
        have ee : PyData.eqv (.list ((ys.map (kOf H4)).map fun p => .tuple [.int p.1, .int p.2])) (.list []) = ys.isEmpty := by cases ys <;> rfl
        rw [ee]
        have sm5 := sm4.trans smE
        have ep5 := smE _ _ ep
        generalize upd H5 e (.lst []) = H6 at hys3 ep5 sm5 ⊢
        cases ys with
        | nil =>
          have : es = [] := by
            have h1 := stb.perm.length_eq
            have h2 := hal.len
            cases es with
            | nil => rfl
            | cons _ _ => simp at h1 h2; omega
          subst this
          exact bQ.same wf sm5 k
        | cons y0 r =>
          refine ⟨_, y0, .inl (.inl (.inl ep5)), atI_nat (j := 0) rfl, ?_⟩
          obtain ⟨t, e1, e2⟩ := hys3 y0 List.mem_cons_self
          subst e1
          refine ⟨_, _, .inr (.inl (.inl e2)), rfl, ?_⟩
          have hl : leastP (es.map fun p => (p.2, p.1)) = some (kOf H4 (.ref t)) := by
            rw [← hks]
            refine leastP_of (List.mem_map.mpr ⟨_, stb.perm.mem_iff.mp List.mem_cons_self, rfl⟩) fun q hq => ?_
            obtain ⟨v, hv, rfl⟩ := List.mem_map.mp hq
            rcases List.mem_cons.mp (stb.perm.mem_iff.mpr hv) with e | e
            · rw [e]
              exact SrtO.lexB_no.mpr (by omega)
            · exact SrtO.srtd_head srt v e
          have hs : optI (soonI es) = .int (kOf H4 (.ref t)).2 := by
            unfold soonI
            rw [hl]
            rfl
          rw [hs] at k
          exact bQ.same wf sm5 k
theorem okm_Hand_soonest {P : Program} {w : World} {K : PySem.W.Frag} {mg : Str → Option Value} {base : Heap} {c : Ad} (T : Txt K mg c) : ∀ C, cs_Hand c C → OkM P w K mg base 1 C "soonest" ["self"] (sp_Hand_soonest K c C) := fun C h => ok_Hand_soonest T (by
  have e : C = c.Hand := h
  exact e)

/-- what a hand tells of a loan, or that it keeps none -/
def toldV (es : List (Int × Int)) (ap n cl : Int) : List V := match valI es n with
  | none => [.str "none", .bl true, .bl false]
  | some e => [.bl (decide (cl + ap < e)), .bl (decide (e ≤ cl - ap)), .int (if 0 < e - ap - 1 - cl then e - ap - 1 - cl else 0)]
def toldP (es : List (Int × Int)) (ap n cl : Int) : PyData := match valI es n with
  | none => .list [.str "none", .bool true, .bool false]
  | some e => .list [.bool (decide (cl + ap < e)), .bool (decide (e ≤ cl - ap)), .int (if 0 < e - ap - 1 - cl then e - ap - 1 - cl else 0)]
theorem toldP_dp {K : PySem.W.Frag} {H : Hp} {p : Addr} {es : List (Int × Int)} {ap n cl : Int} (h : H p = some (.lst (toldV es ap n cl))) : Dp K H (.ref p) (toldP es ap n cl) := by
  unfold toldV at h
  unfold toldP
  cases hv : valI es n with
  | none =>
    rw [hv] at h
    exact .lst (.inl (.inl h)) (.cons (.str _) (.cons (.bl _) (.cons (.bl _) .nil)))
  | some e =>
    rw [hv] at h
    exact .lst (.inl (.inl h)) (.cons (.bl _) (.cons (.bl _) (.cons (.int _) .nil)))
theorem toldP_sh (es : List (Int × Int)) (ap n cl : Int) : SeqAt.shaped (toldP es ap n cl) = true := by
  unfold toldP
  cases valI es n with
  | none =>
    show SeqAt.shaped (.list [.str "none", .bool true, .bool false]) = true
    decide +kernel
  | some e => rfl

abbrev s__law_told : Stmt := topS 25
abbrev N__law_told : List Str := ["_law_hand", "_law_loan", "_law_clock", "_law_found", "e"]
theorem sc__law_told : FnScope N__law_told ["_law_hand", "_law_loan", "_law_clock"] (defScope s__law_told) := ⟨rfl, rfl, rfl, by decide +kernel, rfl, by decide +kernel, by decide +kernel⟩
def sp__law_told (K : PySem.W.Frag) (c : Ad) : Sp := fun vs H Q E => arg3 (fun s v u => ∃ (x : Addr) (nm : Str) (ap : Int) (es : List (Int × Int)) (n cl : Int), s = .ref x ∧ v = .int n ∧ u = .int cl ∧ 0 ≤ n ∧ 0 ≤ cl ∧ HandAt c.Hand H x nm ap es ∧ Wf H ∧ ∀ p H', H' p = some (.lst (toldV es ap n cl)) → Same H H' → Wf H' → Q (.ref p) H') vs
theorem ok__law_told {P : Program} {w : World} {K : PySem.W.Frag} {mg : Str → Option Value} {base : Heap} {c : Ad} (T : Txt K mg c) : Ok P w K mg base 5 "_law_told" ["_law_hand", "_law_loan", "_law_clock"] (sp__law_told K c) := by
  refine okF T.f__law_told sc__law_told (fun vs H Q E h => ?_) (fun f cdv A outer sh H vs Q E hr h => ?_)
  · obtain ⟨s, v, u, rfl, h⟩ := arg3.ex h
    rfl
  · obtain ⟨s, v, u, rfl, h⟩ := arg3.ex h
    have tk : L2N.Takes (cxOf (L2N.CX P w) P w K mg base N__law_told "_law_told" (defScope s__law_told) f cdv A outer sh H (bE H E)) (fun cls d _ H' => bE H E cls d H') := L2N.takes_of rfl rfl rfl rfl
    refine ⟨_, pss_cons (ps_set (i := 3) sc__law_told.nd rfl (.inl rfl) pe_non)
      (pss_cons (ps_tryA (K := K) T.x_LentError sc__law_told.nd (i := 4) rfl tk (fun W pn xe tk pO => pss_one (ps_set (i := 3) sc__law_told.nd rfl (.inl rfl) (pe_lst (pa_cons (pe_mS (CS := cs_Hand c) (lv 0) (okc_Hand T) (okm_Hand_surely_out T) hr tk (pa_cons (lv 2) (pa_cons (lv 1) pa_nil))) (pa_cons (pe_mS (CS := cs_Hand c) (lv 0) (okc_Hand T) (okm_Hand_surely_over T) hr tk (pa_cons (lv 2) (pa_cons (lv 1) pa_nil))) (pa_cons (pe_mS (CS := cs_Hand c) (lv 0) (okc_Hand T) (okm_Hand_left T) hr tk (pa_cons (lv 2) (pa_cons (lv 1) pa_nil))) pa_nil)))))) (fun a oe cls d pn hz hf => pss_one (ps_set (i := 3) sc__law_told.nd rfl (.inl rfl) (pe_lst (pa_cons pe_str (pa_cons (pe_callB (callU_isX (K := K) hz hf) (by rfl) T.m_isinstance (by decide +kernel) (pa_cons (lv 4) (pa_cons (pe_xc T.x_NoLoan) pa_nil))) (pa_cons (pe_callB (callU_isX (K := K) hz hf) (by rfl) T.m_isinstance (by decide +kernel) (pa_cons (lv 4) (pa_cons (pe_xc T.x_NoMoment) pa_nil))) pa_nil)))))))
      (pss_one (ps_ret (lv 3)))), ?_⟩
    obtain ⟨x, nm, ap, es, n, cl, rfl, rfl, rfl, n0, c0, ha, wf, k⟩ := h
    obtain ⟨dx, dk, hx, hd⟩ := id ha
    unfold toldV at k
    cases hv : valI es n with
    | some e =>
      rw [hv] at k
      refine ⟨x, c.Hand, dx, _, rfl, hx, rfl, rfl, x, nm, ap, es, rfl, rfl, ha, wf, .inl ⟨cl, n, e, rfl, c0, rfl, n0, hv, ?_⟩⟩
      refine ⟨x, c.Hand, dx, _, rfl, hx, rfl, rfl, x, nm, ap, es, rfl, rfl, ha, wf, .inl ⟨cl, n, e, rfl, c0, rfl, n0, hv, ?_⟩⟩
      refine ⟨x, c.Hand, dx, _, rfl, hx, rfl, rfl, x, nm, ap, es, rfl, rfl, ha, wf, .inl ⟨cl, n, e, rfl, c0, rfl, n0, hv, ?_⟩⟩
      refine ⟨line_of (show 3 ≤ 16777216 by decide), fun p np => ?_⟩
      have wN := wf.new (o := .lst [.bl (decide (cl + ap < e)), .bl (decide (e ≤ cl - ap)), .int (if 0 < e - ap - 1 - cl then e - ap - 1 - cl else 0)]) trivial np
      exact bQ.mk wN (k p _ upd_same (same_new np) wN)
    | none =>
      rw [hv] at k
      refine ⟨x, c.Hand, dx, _, rfl, hx, rfl, rfl, x, nm, ap, es, rfl, rfl, ha, wf, .inr (.inr ⟨trivial, count_ok c0, trivial, fun m e _ => by cases e; exact hv, ?_⟩)⟩
      refine ⟨true, exc_under T.x_NoLoan T.x_LentError T.u_NoLoan_LentError, fun _ e2 ne => ?_, fun z => by cases z⟩
      refine ⟨_, rfl, rfl, T.x_NoLoan.cc, _, _, _, rfl, fun _ h => h, exc_is T.x_NoLoan T.u_NoLoan_NoLoan T.x_NoLoan T.u_NoLoan_NoLoan, ?_⟩
      refine ⟨_, rfl, rfl, T.x_NoLoan.cc, _, _, _, rfl, fun _ h => h, exc_is T.x_NoLoan T.u_NoLoan_NoLoan T.x_NoMoment T.u_NoLoan_NoMoment, ?_⟩
      refine ⟨line_of (show 3 ≤ 16777216 by decide), fun p np => ?_⟩
      have wN := wf.new (o := .lst [.str "none", .bl true, .bl false]) trivial np
      exact bQ.mk wN (k p _ upd_same (same_new np) wN)

/-- the law's own of a hand -/
def ownO (e : Addr) (ap : Int) : List (Key × V) := [(.inr "ends", .ref e), (.inr "apart", .int ap)]
def OwnH (H : Hp) (o e : Addr) (ap : Int) (es : List (Int × Int)) : Prop := H o = some (.dK (ownO e ap)) ∧ H e = some (.dK (kvI es))
theorem OwnH.ends {H : Hp} {o e : Addr} {ap : Int} {es : List (Int × Int)} (h : OwnH H o e ap es) : DGet H o (.str "ends") (some (.ref e)) := DGet.k (k := .inr "ends") h.1
theorem OwnH.apart {H : Hp} {o e : Addr} {ap : Int} {es : List (Int × Int)} (h : OwnH H o e ap es) : DGet H o (.str "apart") (some (.int ap)) := DGet.k (k := .inr "apart") h.1
theorem OwnH.same {H H' : Hp} {o e : Addr} {ap : Int} {es : List (Int × Int)} (h : OwnH H o e ap es) (s : Same H H') : OwnH H' o e ap es := ⟨s _ _ h.1, s _ _ h.2⟩
theorem OwnH.val {H : Hp} {o e : Addr} {ap : Int} {es : List (Int × Int)} (h : OwnH H o e ap es) (n : Int) : DGet H e (.int n) ((valI es n).map V.int) := kvI_val es n ▸ DGet.k (k := .inl n) h.2

abbrev s__law_due : Stmt := topS 26
abbrev N__law_due : List Str := ["_law_own", "_law_loan", "_law_clock", "_law_late"]
theorem sc__law_due : FnScope N__law_due ["_law_own", "_law_loan", "_law_clock"] (defScope s__law_due) := ⟨rfl, rfl, rfl, by decide +kernel, rfl, by decide +kernel, by decide +kernel⟩
def sp__law_due (K : PySem.W.Frag) (c : Ad) : Sp := fun vs H Q E => arg3 (fun s v u => ∃ (o e : Addr) (ap : Int) (es : List (Int × Int)) (n cl : Int), s = .ref o ∧ v = .int n ∧ u = .int cl ∧ OwnH H o e ap es ∧ Wf H ∧ ∀ p H', H' p = some (.lst (toldV es ap n cl)) → Same H H' → Wf H' → Q (.ref p) H') vs
theorem ok__law_due {P : Program} {w : World} {K : PySem.W.Frag} {mg : Str → Option Value} {base : Heap} {c : Ad} (T : Txt K mg c) : Ok P w K mg base 1 "_law_due" ["_law_own", "_law_loan", "_law_clock"] (sp__law_due K c) := by
  refine okF T.f__law_due sc__law_due (fun vs H Q E h => ?_) (fun f cdv A outer sh H vs Q E hr h => ?_)
  · obtain ⟨s, v, u, rfl, h⟩ := arg3.ex h
    rfl
  · obtain ⟨s, v, u, rfl, h⟩ := arg3.ex h
    have tk : L2N.Takes (cxOf (L2N.CX P w) P w K mg base N__law_due "_law_due" (defScope s__law_due) f cdv A outer sh H (bE H E)) (fun cls d _ H' => bE H E cls d H') := L2N.takes_of rfl rfl rfl rfl
    refine ⟨_, pss_cons (ps_if (pt_pcU (pc_dnotin (roomU1 hr :) (lv 1) (pe_dget (roomU1 hr :) (lv 0) pe_str (fun _ _ => rfl))) (by rfl))
      (pss_one (ps_ret (pe_lst (pa_cons pe_str (pa_cons pe_bl (pa_cons pe_bl pa_nil)))))) pss_nil)
      (pss_cons (ps_set (i := 3) sc__law_due.nd rfl (.inl rfl) (pe_op opU_sub (pe_dget (roomU1 hr :) (pe_dget (roomU1 hr :) (lv 0) pe_str (fun _ _ => rfl)) (lv 1) (fun _ _ => rfl)) (lv 2)))
      (pss_one (ps_ret (pe_lst (pa_cons (pe_cmpR opU_gt (lv 3) (pe_dget (roomU1 hr :) (lv 0) pe_str (fun _ _ => rfl)) (nomark _)) (pa_cons (pe_cmpR opU_le (pe_op (opU_add (K := K)) (lv 3) (pe_dget (roomU1 hr :) (lv 0) pe_str (fun _ _ => rfl))) pe_int (nomark _)) (pa_cons (pe_callB (callU_max2 rfl) (by rfl) T.m_max (by decide +kernel) (pa_cons (pe_op opU_sub (pe_op opU_sub (lv 3) (pe_dget (roomU1 hr :) (lv 0) pe_str (fun _ _ => rfl))) pe_int) (pa_cons pe_int pa_nil))) pa_nil))))))), ?_⟩
    obtain ⟨o, e, ap, es, n, cl, rfl, rfl, rfl, ho, wf, k⟩ := h
    unfold toldV at k
    cases hv : valI es n with
    | none =>
      rw [hv] at k
      have hg : DGet H e (.int n) none := by
        have := ho.val n
        rw [hv] at this
        exact this
      refine ⟨o, _, rfl, ho.ends, ?_⟩
      refine ⟨e, _, rfl, hg, ?_⟩
      refine ⟨line_of (show 3 ≤ 16777216 by decide), fun p np => ?_⟩
      have wN := wf.new (o := .lst [.str "none", .bl true, .bl false]) trivial np
      exact bQ.mk wN (k p _ upd_same (same_new np) wN)
    | some m =>
      rw [hv] at k
      have hg : DGet H e (.int n) (some (.int m)) := by
        have := ho.val n
        rw [hv] at this
        exact this
      refine ⟨o, _, rfl, ho.ends, ?_⟩
      refine ⟨e, _, rfl, hg, ?_⟩
      refine ⟨o, _, rfl, ho.ends, ?_⟩
      refine ⟨e, _, rfl, hg, ?_⟩
      refine ⟨o, _, rfl, ho.apart, ?_⟩
      refine ⟨o, _, rfl, ho.apart, ?_⟩
      refine ⟨o, _, rfl, ho.apart, ?_⟩
      have eL : ([.bl (decide (ap < m - cl)), .bl (decide (m - cl + ap ≤ 0)), .int (if (0 : Int) > m - cl - ap - 1 then 0 else m - cl - ap - 1)] : List V) = [.bl (decide (cl + ap < m)), .bl (decide (m ≤ cl - ap)), .int (if 0 < m - ap - 1 - cl then m - ap - 1 - cl else 0)] := by
        have q1 : decide (ap < m - cl) = decide (cl + ap < m) := decide_eq_decide.mpr (by omega)
        have q2 : decide (m - cl + ap ≤ 0) = decide (m ≤ cl - ap) := decide_eq_decide.mpr (by omega)
        have q3 : (if (0 : Int) > m - cl - ap - 1 then 0 else m - cl - ap - 1) = (if 0 < m - ap - 1 - cl then m - ap - 1 - cl else 0) := by split <;> split <;> omega
        rw [q1, q2, q3]
      refine ⟨line_of (show 3 ≤ 16777216 by decide), fun p np => ?_⟩
      rw [eL]
      have wN := wf.new (o := .lst [.bl (decide (cl + ap < m)), .bl (decide (m ≤ cl - ap)), .int (if 0 < m - ap - 1 - cl then m - ap - 1 - cl else 0)]) trivial np
      exact bQ.mk wN (k p _ upd_same (same_new np) wN)

theorem valI_in : ∀ {es : List (Int × Int)} {p : Int × Int}, (es.map (·.1)).Nodup → p ∈ es → valI es p.1 = some p.2
  | q :: r, p, nd, h => by
    obtain ⟨n1, n2⟩ := List.nodup_cons.mp nd
    unfold valI
    rw [List.find?_cons]
    rcases List.mem_cons.mp h with rfl | h
    · rw [decide_eq_true rfl]
      rfl
    · have ne : q.1 ≠ p.1 := fun e => n1 (by
        show q.1 ∈ r.map (·.1)
        rw [e]
        exact List.mem_map.mpr ⟨p, h, rfl⟩)
      rw [decide_eq_false ne]
      exact valI_in n2 h
theorem getI_in {es : List (Int × Int)} {p : Int × Int} (nd : (es.map (·.1)).Nodup) (h : p ∈ es) : getI es p.1 = p.2 := by
  unfold getI
  rw [valI_in nd h]
  rfl
theorem key_in {es : List (Int × Int)} (nd : (es.map (·.1)).Nodup) {ys : List Int} (pm : ys.Perm (es.map (·.1))) {n : Int} (h : n ∈ ys) : valI es n = some (getI es n) ∧ (n, getI es n) ∈ es := by
  obtain ⟨p, hp, rfl⟩ := List.mem_map.mp (pm.mem_iff.mp h)
  rw [getI_in nd hp]
  exact ⟨valI_in nd hp, hp⟩
theorem tells_eq {es : List (Int × Int)} (nd : (es.map (·.1)).Nodup) {ys : List Int} (pm : ys.Perm (es.map (·.1))) (pw : ys.Pairwise (· ≤ ·)) (ap cl : Int) : (ys.filter fun n => decide (cl < getI es n + ap)) = tellsI es ap cl := by
  refine PySem.W.eq_sortI ?_ (pw.filter _)
  refine (pm.filter _).trans ?_
  rw [List.filter_map]
  refine List.Perm.of_eq ?_
  congr 1
  refine List.filter_congr fun p hp => ?_
  show decide (cl < getI es p.1 + ap) = decide (cl - ap < p.2)
  rw [getI_in nd hp]
  exact decide_eq_decide.mpr (by omega)
/-- the first of the least ends -/
def firstS (es : List (Int × Int)) (o : Option Int) (n : Int) : Option Int := match o with
  | none => some n
  | some m => if getI es n < getI es m then some n else some m
def firstF (es : List (Int × Int)) (ys : List Int) : Option Int := ys.foldl (firstS es) none
theorem firstF_next (es : List (Int × Int)) {ys : List Int} {j : Nat} {n : Int} (h : ys[j]? = some n) : firstF es (ys.take (j + 1)) = firstS es (firstF es (ys.take j)) n := by
  unfold firstF
  rw [take_snoc h, List.foldl_append]
  rfl
theorem firstF_is (es : List (Int × Int)) : ∀ (ys : List Int), ys.Pairwise (· ≤ ·) → ∀ j, j ≤ ys.length → (j = 0 ∧ firstF es (ys.take j) = none) ∨ ∃ m, firstF es (ys.take j) = some m ∧ m ∈ ys.take j ∧ ∀ q ∈ ys.take j, getI es m < getI es q ∨ (getI es m = getI es q ∧ m ≤ q) := fun ys pw j => by
  induction j with
  | zero => exact fun _ => .inl ⟨rfl, rfl⟩
  | succ j ih =>
    intro hj
    have hn : ys[j]? = some ys[j] := List.getElem?_eq_getElem hj
    have up : ∀ q ∈ ys.take j, q ≤ ys[j] := fun q hq => by
      obtain ⟨i, hi⟩ := List.mem_iff_getElem?.mp hq
      rw [List.getElem?_take] at hi
      split at hi
      · rename_i lt
        obtain ⟨hi', e⟩ := List.getElem?_eq_some_iff.mp hi
        rw [← e]
        exact List.pairwise_iff_getElem.mp pw i j hi' hj lt
      · cases hi
    generalize ys[j] = n at hn up
    right
    rw [firstF_next es hn, take_snoc hn]
    rcases ih (by omega) with ⟨rfl, e⟩ | ⟨m, e, hm, hq⟩
    · rw [e]
      refine ⟨n, rfl, List.mem_append.mpr (.inr List.mem_cons_self), fun q hq => ?_⟩
      have : q = n := by simpa using hq
      subst this
      exact .inr ⟨rfl, Int.le_refl _⟩
    · rw [e]
      show ∃ m', (if getI es n < getI es m then some n else some m) = some m' ∧ _
      by_cases g : getI es n < getI es m
      · rw [if_pos g]
        refine ⟨n, rfl, List.mem_append.mpr (.inr List.mem_cons_self), fun q h => ?_⟩
        rcases List.mem_append.mp h with h | h
        · have := hq q h
          omega
        · rw [List.mem_singleton.mp h]
          exact .inr ⟨rfl, Int.le_refl _⟩
      · rw [if_neg g]
        refine ⟨m, rfl, List.mem_append.mpr (.inl hm), fun q h => ?_⟩
        rcases List.mem_append.mp h with h | h
        · exact hq q h
        · rw [List.mem_singleton.mp h]
          have := up m hm
          omega
theorem firstF_soon {es : List (Int × Int)} (nd : (es.map (·.1)).Nodup) {ys : List Int} (pm : ys.Perm (es.map (·.1))) (pw : ys.Pairwise (· ≤ ·)) : firstF es ys = soonI es := by
  have h := firstF_is es ys pw ys.length (Nat.le_refl _)
  rw [List.take_length] at h
  rcases h with ⟨h0, e⟩ | ⟨m, e, hm, hq⟩
  · have : es = [] := by
      have := pm.length_eq
      rw [h0, List.length_map] at this
      exact List.eq_nil_of_length_eq_zero this.symm
    subst this
    rw [e]
    rfl
  · rw [e]
    unfold soonI
    have hl : leastP (es.map fun p => (p.2, p.1)) = some (getI es m, m) := by
      refine leastP_of (List.mem_map.mpr ⟨_, (key_in nd pm hm).2, rfl⟩) fun q hq' => ?_
      obtain ⟨p, hp, rfl⟩ := List.mem_map.mp hq'
      have := hq p.1 (pm.mem_iff.mpr (List.mem_map.mpr ⟨p, hp, rfl⟩))
      rw [getI_in nd hp] at this
      refine SrtO.lexB_no.mpr ?_
      show ¬ (p.2 < getI es m ∨ (p.2 = getI es m ∧ p.1 < m))
      omega
    rw [hl]
    rfl
theorem kvI_keys (es : List (Int × Int)) : (kvI es).map (·.1) = (es.map (·.1)).map Sum.inl := by
  unfold kvI
  rw [List.map_map, List.map_map]
  rfl
theorem ints_sh (zs : List Int) : SeqAt.shaped (.list (zs.map .int)) = true := by
  have h1 : PyData.canLayAll0 (zs.map .int) = true := by
    induction zs with
    | nil => rfl
    | cons p r ih =>
      show (true && _) = true
      rw [ih]
      rfl
  have h2 : PyData.depthAll (zs.map .int) ≤ 0 := by
    clear h1
    induction zs with
    | nil => exact Nat.zero_le _
    | cons p r ih =>
      show max 0 _ ≤ 0
      omega
  unfold SeqAt.shaped
  show (PyData.canLayAll0 _ && decide (PyData.depthAll _ + 1 ≤ 64)) = true
  rw [h1, decide_eq_true (by omega)]
  rfl
theorem int_nth {ys : List Int} {i : Nat} {v : V} (h : (ys.map V.int)[i]? = some v) : ∃ n, ys[i]? = some n ∧ v = .int n := by
  rw [List.getElem?_map] at h
  cases e : ys[i]? with
  | none => rw [e] at h; cases h
  | some n => rw [e] at h; cases h; exact ⟨n, rfl, rfl⟩

abbrev s__law_lists_right : Stmt := topS 27
abbrev N__law_lists_right : List Str := ["_law_hand", "_law_own", "_law_clock", "_law_kept", "_law_told_here", "_law_first", "_law_loan"]
theorem sc__law_lists_right : FnScope N__law_lists_right ["_law_hand", "_law_own", "_law_clock"] (defScope s__law_lists_right) := ⟨rfl, rfl, rfl, by decide +kernel, rfl, by decide +kernel, by decide +kernel⟩
def sp__law_lists_right (K : PySem.W.Frag) (c : Ad) : Sp := fun vs H Q E => arg3 (fun s v u => ∃ (x o e : Addr) (nm : Str) (ap : Int) (es : List (Int × Int)) (cl : Int), s = .ref x ∧ v = .ref o ∧ u = .int cl ∧ 0 ≤ cl ∧ HandAt c.Hand H x nm ap es ∧ OwnH H o e ap es ∧ (es.map (·.1)).Nodup ∧ es.length ≤ 60 ∧ Wf H ∧ ∀ H', Same H H' → Wf H' → Q (.bl true) H') vs
theorem ok__law_lists_right {P : Program} {w : World} {K : PySem.W.Frag} {mg : Str → Option Value} {base : Heap} {c : Ad} (T : Txt K mg c) : Ok P w K mg base 5 "_law_lists_right" ["_law_hand", "_law_own", "_law_clock"] (sp__law_lists_right K c) := by
  refine okF T.f__law_lists_right sc__law_lists_right (fun vs H Q E h => ?_) (fun f cdv A outer sh H vs Q E hr h => ?_)
  · obtain ⟨s, v, u, rfl, h⟩ := arg3.ex h
    rfl
  · obtain ⟨s, v, u, rfl, h⟩ := arg3.ex h
    have tk : L2N.Takes (cxOf (L2N.CX P w) P w K mg base N__law_lists_right "_law_lists_right" (defScope s__law_lists_right) f cdv A outer sh H (bE H E)) (fun cls d _ H' => bE H E cls d H') := L2N.takes_of rfl rfl rfl rfl
    refine ⟨_, pss_cons (ps_set (i := 3) sc__law_lists_right.nd rfl (.inr rfl) (pe_dget (roomU1 hr :) (lv 1) pe_str (fun _ _ => rfl)))
      (pss_cons (ps_set (i := 4) sc__law_lists_right.nd rfl (.inl rfl) (pe_mS (CS := cs_Hand c) (lv 0) (okc_Hand T) (okm_Hand_tells T) hr tk (pa_cons (lv 2) pa_nil)))
      (pss_cons (ps_if (pt_cmpU (opU_ne (K := K) hr) (lv 4) (pe_lc (own := [("_law_loan", 6)]) (g := gName 6) rfl sc__law_lists_right.nd (pi_listK (K := K) (pe_callB (call_sortedDI rfl) (by rfl) T.m_sorted (by decide +kernel) (pa_cons (lv 3) pa_nil))) (blkOk_by (own := [("_law_loan", 6)]) (N := N__law_lists_right) (sc := defScope s__law_lists_right) (by decide +kernel)) (fun _ _ _ _ _ => pg_name (i := 6) sc__law_lists_right.nd rfl (.inl rfl)) (fun _ _ _ _ _ => pts_one (pt_cmpU opU_gt (pe_op (opU_add (K := K)) (pe_dget (roomU1 hr :) (lv 3) (lv 6) (fun _ _ => rfl)) (pe_dget (roomU1 hr :) (lv 1) pe_str (fun _ _ => rfl))) (lv 2) (nomark _))) (fun _ _ _ _ _ => lv 6)) (nomark _))
      (pss_one (ps_ret pe_bl)) pss_nil)
      (pss_cons (ps_expr (pe_bm0 PySem.F.plainAttrs_list PySem.F.slot_list_clear PySem.F.type_list_clear mt_clear (lv 4)))
      (pss_cons (ps_set (i := 5) sc__law_lists_right.nd rfl (.inl rfl) pe_non)
      (pss_cons (ps_for (passes_of rfl) rfl (pi_listK (K := K) (pe_callB (call_sortedDI rfl) (by rfl) T.m_sorted (by decide +kernel) (pa_cons (lv 3) pa_nil))) (pg_name (i := 6) sc__law_lists_right.nd rfl (.inl rfl))
      (pss_one (ps_if (PW.pt (pw_or (pt_cmpU opU_is (lv 5) pe_non (nomark _)) (pw_or1 (pt_cmpU opU_lt (pe_dget (roomU1 hr :) (lv 3) (lv 6) (fun _ _ => rfl)) (pe_dget (roomU1 hr :) (lv 3) (lv 5) (fun _ _ => rfl)) (nomark _)))))
      (pss_one (ps_set (i := 5) sc__law_lists_right.nd rfl (.inl rfl) (lv 6))) pss_nil)))
      (pss_one (ps_ret (pe_andU (K := K) (pe_cmpR (opU_eq (K := K) hr) (pe_mS0 (CS := cs_Hand c) (lv 0) (okc_Hand T) (okm_Hand_soonest T) (hr.mono (by decide)) tk) (lv 5) (nomark _)) (pe_one (pe_notU (K := K) (pe_callB (callU_isi (K := K)) (by rfl) T.m_isinstance (by decide +kernel) (pa_cons (pe_mS0 (CS := cs_Hand c) (lv 0) (okc_Hand T) (okm_Hand_soonest T) (hr.mono (by decide)) tk) (pa_cons (pe_ty "bool" T.m_bool) pa_nil))))))))))))), ?_⟩
    obtain ⟨x, o, e, nm, ap, es, cl, rfl, rfl, rfl, c0, ha, ho, ue, le, wf, k⟩ := h
    obtain ⟨dx, dk, hx, hd⟩ := id ha
    refine ⟨o, _, rfl, ho.ends, ?_⟩
    refine ⟨x, c.Hand, dx, _, rfl, hx, rfl, rfl, x, nm, ap, es, rfl, rfl, ha, by omega, wf, .inl ⟨cl, rfl, c0, fun q H1 eq nq sm1 w1 => ?_⟩⟩
    have ho1 := ho.same sm1
    refine ⟨e, kvI es, es.map (·.1), rfl, .inl ho1.2, kvI_keys es, by rw [List.length_map]; omega, fun ys p1 pm pw np1 => ?_⟩
    have s2 := same_new (o := .lst (ys.map V.int)) np1
    have w2 := w1.new (o := .lst (ys.map V.int)) trivial np1
    have ep1 : (upd H1 p1 (.lst (ys.map V.int))) p1 = some (.lst (ys.map V.int)) := upd_same
    replace eq := s2 _ _ eq
    have sm2 := sm1.trans s2
    generalize upd H1 p1 (.lst (ys.map V.int)) = H2 at s2 w2 ep1 eq sm2 ⊢
    have ho2 := ho.same sm2
    have lys : ys.length ≤ 60 := by rw [pm.length_eq, List.length_map]; exact le
    refine ⟨p1, rfl, ⟨_, .inl (.inl ep1)⟩, fun D nD => ?_⟩
    refine lc_it (walk_list (K := K) (a := p1) (xs := ys.map V.int)) (fun i H' => H' D = some (.lst (((ys.take i).filter fun n => decide (cl < getI es n + ap)).map V.int)) ∧ Same H2 H' ∧ Wf H') ⟨upd_same, same_new nD, w2.new trivial nD⟩ (fun i H' _ h => .inl (.inl (h.2.1 _ _ ep1))) (fun i v H3 H3' hi hp hy => ?_) (fun H3 hp => ?_)
    · obtain ⟨eD, sm3, w3⟩ := hp
      obtain ⟨rfl, hx3⟩ := hy
      obtain ⟨n, hn, rfl⟩ := int_nth hx3
      refine ⟨rfl, ?_⟩
      have ho3 := ho2.same sm3
      obtain ⟨hv, _⟩ := key_in ue pm (List.mem_of_getElem? hn)
      have hg : DGet H3' e (.int n) (some (.int (getI es n))) := by
        have := ho3.val n
        rw [hv] at this
        exact this
      refine ⟨e, _, rfl, hg, ?_⟩
      refine ⟨o, _, rfl, ho3.apart, ?_⟩
      have lacc : (((ys.take i).filter fun n => decide (cl < getI es n + ap)).map V.int).length < sizeLine := line_lt (by
        rw [List.length_map]
        have := List.length_filter_le (fun n : Int => decide (cl < getI es n + ap)) (ys.take i)
        rw [List.length_take] at this
        omega)
      refine iteC (p := cl < getI es n + ap) (fun h1 => ?_) (fun h1 => ?_)
      · refine ⟨_, eD, lacc, ?_, fun b o eb => ?_, w3.at trivial eD fun _ z => by cases z⟩
        · rw [upd_same, take_snoc hn, List.filter_append, List.map_append]
          simp [h1]
        · rw [upd_ne (ne_of_none eb nD)]
          exact sm3 b o eb
      · refine ⟨?_, sm3, w3⟩
        rw [take_snoc hn, List.filter_append, List.map_append]
        simp [h1]
        simpa using eD
    obtain ⟨eD, sm3, w3⟩ := hp
    rw [List.length_map, List.take_length, tells_eq ue pm pw] at eD
    have eq3 := sm3 _ _ eq
    refine ⟨_, _, .lst (.inl (.inl eq3)) (dp_ints (tellsI es ap cl)), .lst (.inl (.inl eD)) (dp_ints (tellsI es ap cl)), ints_sh _, ints_sh _, ?_⟩
    rw [SeqAt.eqv_refl _ (SeqAt.canLay_of_shaped (ints_sh _))]
    have nqH : ∀ b o, H b = some o → b ≠ q := fun b o e => ne_of_none e nq
    refine ⟨.inl ⟨rfl, _, .inl (.inl eq3)⟩, ?_⟩
    refine ⟨q, _, rfl, rfl, eq3, ?_⟩
    have sm4 : Same H (upd H3 q (.lst [])) := fun b u eb => (upd_ne (nqH b u eb)).trans (sm3 _ _ (sm2 _ _ eb))
    have w4 := w3.at (o := .lst []) trivial eq3 fun _ z => by cases z
    generalize upd H3 q (.lst []) = H4 at sm4 w4 ⊢
    have ho4 := ho.same sm4
    refine ⟨e, kvI es, es.map (·.1), rfl, .inl ho4.2, kvI_keys es, by rw [List.length_map]; omega, fun zs p2 pm2 pw2 np2 => ?_⟩
    have s5 := same_new (o := .lst (zs.map V.int)) np2
    have w5 := w4.new (o := .lst (zs.map V.int)) trivial np2
    have ep2 : (upd H4 p2 (.lst (zs.map V.int))) p2 = some (.lst (zs.map V.int)) := upd_same
    have sm5 := sm4.trans s5
    generalize upd H4 p2 (.lst (zs.map V.int)) = H5 at s5 w5 ep2 sm5 ⊢
    refine ⟨p2, rfl, ⟨_, .inl (.inl ep2)⟩, for_it (walk_list (K := K) (a := p2) (xs := zs.map V.int)) (fun j σ H' => ∃ (y6 : Option V), σ = [some (.ref x), some (.ref o), some (.int cl), some (.ref e), some (.ref q), some (optI (firstF es (zs.take j))), y6] ∧ Same H5 H' ∧ Wf H') ⟨_, rfl, Same.refl _, w5⟩ (fun j σ H' _ h => by obtain ⟨_, _, h, _⟩ := h; exact .inl (.inl (h _ _ ep2))) (fun j xx σ H6 H6' hj h hy => ?_) (fun σ H6 h => ?_)⟩
    · obtain ⟨y6, rfl, sm6, w6⟩ := h
      obtain ⟨rfl, hx6⟩ := hy
      obtain ⟨n, hn, rfl⟩ := int_nth hx6
      have ho6 := ho.same (sm5.trans sm6)
      obtain ⟨hv, _⟩ := key_in ue pm2 (List.mem_of_getElem? hn)
      have hg : DGet H6' e (.int n) (some (.int (getI es n))) := by
        have := ho6.val n
        rw [hv] at this
        exact this
      have hj' : j ≤ zs.length := by rw [List.length_map] at hj; omega
      rw [firstF_next es hn]
      rcases firstF_is es zs pw2 j hj' with ⟨_, e0⟩ | ⟨m, e0, hm, _⟩
      · rw [e0]
        exact ⟨_, rfl, sm6, w6⟩
      · rw [e0]
        obtain ⟨hvm, _⟩ := key_in ue pm2 (List.mem_of_mem_take hm)
        have hgm : DGet H6' e (.int m) (some (.int (getI es m))) := by
          have := ho6.val m
          rw [hvm] at this
          exact this
        refine ⟨e, _, rfl, hg, ?_⟩
        refine ⟨e, _, rfl, hgm, ?_⟩
        refine iteC (p := getI es n < getI es m) (fun h1 => ?_) (fun h1 => ?_)
        · rw [show firstS es (some m) n = some n from if_pos h1]
          exact ⟨_, rfl, sm6, w6⟩
        · rw [show firstS es (some m) n = some m from if_neg h1]
          exact ⟨_, rfl, sm6, w6⟩
    obtain ⟨y6, rfl, sm6, w6⟩ := h
    rw [List.length_map, List.take_length, firstF_soon ue pm2 pw2]
    have smF := sm5.trans sm6
    have ha6 := ha.keep smF
    refine ⟨x, c.Hand, dx, _, rfl, smF _ _ hx, rfl, rfl, x, nm, ap, es, rfl, rfl, ha6, by omega, w6, ?_⟩
    have fin : bQ H Q (.bl true) H6 := bQ.mk w6 (k H6 smF w6)
    cases hs : soonI es with
    | none =>
      refine ⟨x, c.Hand, dx, _, rfl, smF _ _ hx, rfl, rfl, x, nm, ap, es, rfl, rfl, ha6, by omega, w6, ?_⟩
      rw [hs]
      exact ⟨_, isk_bool (v := .non) trivial, fin⟩
    | some m =>
      refine iteB (c := decide (V.int m = V.int m)) (fun _ => ?_) (fun z => absurd rfl (of_decide_eq_false z))
      refine ⟨x, c.Hand, dx, _, rfl, smF _ _ hx, rfl, rfl, x, nm, ap, es, rfl, rfl, ha6, by omega, w6, ?_⟩
      rw [hs]
      exact ⟨_, isk_bool (v := .int m) trivial, fin⟩

abbrev s__law_step : Stmt := topS 28
abbrev N__law_step : List Str := ["_law_hand", "_law_own", "_law_forgets", "_law_loan", "_law_end_here", "_law_found", "e", "_law_due_here"]
theorem sc__law_step : FnScope N__law_step ["_law_hand", "_law_own", "_law_forgets", "_law_loan", "_law_end_here"] (defScope s__law_step) := ⟨rfl, rfl, rfl, by decide +kernel, rfl, by decide +kernel, by decide +kernel⟩
def sp__law_step (K : PySem.W.Frag) (c : Ad) : Sp := fun vs H Q E => arg5 (fun s v g n u => ∃ (x dx dk o e : Addr) (nm : Str) (ap : Int) (es : List (Int × Int)) (b : Bool) (lo en : Int), s = .ref x ∧ v = .ref o ∧ g = .bl b ∧ n = .int lo ∧ u = .int en ∧ 0 ≤ lo ∧ 0 ≤ en ∧ H x = some (.ins c.Hand dx (fsH nm ap dk)) ∧ H dk = some (.dK (kvI es)) ∧ OwnH H o e ap es ∧ dk ≠ e ∧ es.length ≤ 60 ∧ Wf H ∧ (b = false → Q (.bl true) (upd (upd H dk (.dK (kvI (heard es lo en)))) e (.dK (kvI (heard es lo en))))) ∧ (b = true → valI es lo = none → Q (.bl true) H) ∧ (b = true → (valI es lo).isSome = true → Q (.bl true) (upd (upd H dk (.dK (kvI (dropI es lo)))) e (.dK (kvI (dropI es lo)))))) vs
theorem ok__law_step {P : Program} {w : World} {K : PySem.W.Frag} {mg : Str → Option Value} {base : Heap} {c : Ad} (T : Txt K mg c) : Ok P w K mg base 5 "_law_step" ["_law_hand", "_law_own", "_law_forgets", "_law_loan", "_law_end_here"] (sp__law_step K c) := by
  refine okF T.f__law_step sc__law_step (fun vs H Q E h => ?_) (fun f cdv A outer sh H vs Q E hr h => ?_)
  · obtain ⟨s, v, g, n, u, rfl, h⟩ := arg5.ex h
    rfl
  · obtain ⟨s, v, g, n, u, rfl, h⟩ := arg5.ex h
    have tk : L2N.Takes (cxOf (L2N.CX P w) P w K mg base N__law_step "_law_step" (defScope s__law_step) f cdv A outer sh H (bE H E)) (fun cls d _ H' => bE H E cls d H') := L2N.takes_of rfl rfl rfl rfl
    refine ⟨_, pss_cons (ps_if (pt_not (pt_truthU (K := K) (lv 2) (by intro _; rfl)))
      (pss_cons (ps_expr (pe_mS (CS := cs_Hand c) (lv 0) (okc_Hand T) (okm_Hand_hears T) hr tk (pa_cons (lv 3) (pa_cons (lv 4) pa_nil))))
      (pss_cons (ps_dput (roomU1 hr :) (pe_dget (roomU1 hr :) (lv 1) pe_str (fun _ _ => rfl)) (lv 3) (pe_callB (callU_max2 rfl) (by rfl) T.m_max (by decide +kernel) (pa_cons (lv 4) (pa_cons (pe_dget2 (roomU1 hr :) (pe_dget (roomU1 hr :) (lv 1) pe_str (fun _ _ => rfl)) (lv 3) pe_int ⟨by rfl, by rfl, by rfl, by rfl⟩) pa_nil))) (by rfl))
      (pss_one (ps_ret pe_bl)))) pss_nil)
      (pss_cons (ps_set (i := 5) sc__law_step.nd rfl (.inl rfl) pe_str)
      (pss_cons (ps_tryA (K := K) T.x_LentError sc__law_step.nd (i := 6) rfl tk (fun W pn xe tk pO => pss_one (ps_expr (pe_mS (CS := cs_Hand c) (lv 0) (okc_Hand T) (okm_Hand_forgets T) hr tk (pa_cons (lv 3) pa_nil)))) (fun a oe cls d pn hz hf => pss_one (ps_set (i := 5) sc__law_step.nd rfl (.inl rfl) (pe_ifExp (pt_truthU (K := K) (pe_callB (callU_isX (K := K) hz hf) (by rfl) T.m_isinstance (by decide +kernel) (pa_cons (lv 6) (pa_cons (pe_xc T.x_NoLoan) pa_nil))) (by intro _; rfl)) pe_str pe_str))))
      (pss_cons (ps_set (i := 7) sc__law_step.nd rfl (.inl rfl) (pe_ix (ixU (K := K)) (pe_lst (pa_cons pe_str (pa_cons pe_str pa_nil))) (pe_callTy callU_int (by rfl) T.m_int (by decide +kernel) (pa_cons (pe_cmp (pc_din (roomU1 hr :) (lv 3) (pe_dget (roomU1 hr :) (lv 1) pe_str (fun _ _ => rfl))) (by rfl)) pa_nil)) (fun _ _ => rfl)))
      (pss_cons (ps_expr (pe_dpop2 (pe_dget (roomU1 hr :) (lv 1) pe_str (fun _ _ => rfl)) (lv 3) pe_non ⟨by rfl, by rfl, by rfl, by rfl⟩))
      (pss_one (ps_ret (pe_cmpR (opU_eq (K := K) hr) (lv 5) (lv 7) (nomark _)))))))), ?_⟩
    obtain ⟨x, dx, dk, o, e, nm, ap, es, b, lo, en, rfl, rfl, rfl, rfl, rfl, lo0, en0, hx, hd, ho, nde, le, wf, kH, kN, kS⟩ := h
    have ha : HandAt c.Hand H x nm ap es := ⟨dx, dk, hx, hd⟩
    have own_ne : ∀ {fs : List (Int × Int)}, HO.dK (ownO e ap) ≠ HO.dK (kvI fs) := fun {fs} z => by
      cases fs with
      | nil => cases z
      | cons p r =>
        unfold ownO kvI at z
        rw [List.map_cons] at z
        injection z with z
        injection z with z1 z2
        cases z1
    have n1 : o ≠ dk := ne_of ho.1 hd own_ne
    have n2 : o ≠ e := ne_of ho.1 ho.2 own_ne
    cases b with
    | false =>
      refine ⟨x, c.Hand, dx, _, rfl, hx, rfl, rfl, x, nm, ap, es, rfl, rfl, ha, by omega, wf, .inl ⟨lo, en, rfl, rfl, lo0, en0, fun dx' dk' hx' hd' => ?_⟩⟩
      obtain rfl : dk = dk' := by
        rw [hx] at hx'
        cases hx'
        rfl
      have kH' := kH rfl
      have ho2 : OwnH (upd H dk (.dK (kvI (heard es lo en)))) o e ap es := ⟨(upd_ne n1).trans ho.1, (upd_ne nde.symm).trans ho.2⟩
      have w2 := wf.at (o := .dK (kvI (heard es lo en))) trivial hd fun _ z => by cases z
      generalize upd H dk (.dK (kvI (heard es lo en))) = H2 at ho2 w2 kH' ⊢
      refine ⟨o, _, rfl, ho2.ends, ?_⟩
      refine ⟨e, rfl, .inl ⟨_, .inl ho2.2⟩, (valI es lo).map V.int, ho2.val lo, ?_⟩
      have eg : ((valI es lo).map V.int).getD (.int 0) = .int (getI es lo) := by
        unfold getI
        cases valI es lo <;> rfl
      rw [eg]
      refine ⟨o, _, rfl, ho2.ends, ?_⟩
      refine ⟨e, _, rfl, .inl ⟨kvI es, .inl lo, ho2.2, rfl, line_lt (by rw [kvI_len]; omega), rfl⟩, ?_⟩
      rw [kvI_put]
      exact bQ.mk (w2.at trivial ho2.2 fun _ z => by cases z) kH'
    | true =>
      cases hv : valI es lo with
      | none =>
        refine ⟨x, c.Hand, dx, _, rfl, hx, rfl, rfl, x, nm, ap, es, rfl, rfl, ha, wf, .inr ⟨trivial, fun m e' _ => by cases e'; exact hv, ?_⟩⟩
        refine ⟨true, exc_under T.x_NoLoan T.x_LentError T.u_NoLoan_LentError, fun _ e2 ne => ?_, fun z => by cases z⟩
        refine ⟨_, rfl, rfl, T.x_NoLoan.cc, _, _, _, rfl, fun _ h => h, exc_is T.x_NoLoan T.u_NoLoan_NoLoan T.x_NoLoan T.u_NoLoan_NoLoan, ?_⟩
        refine ⟨line_of (show 2 ≤ 16777216 by decide), fun t nt => ?_⟩
        have sT := same_new (o := .lst [.str "none", .str "gone"]) nt
        have wT := wf.new (o := .lst [.str "none", .str "gone"]) trivial nt
        have et : (upd H t (.lst [.str "none", .str "gone"])) t = some (.lst [.str "none", .str "gone"]) := upd_same
        have kk := kN rfl hv
        generalize upd H t (.lst [.str "none", .str "gone"]) = HT at sT wT et ⊢
        have hoT := ho.same sT
        have hg : DGet HT e (.int lo) none := by
          have := hoT.val lo
          rw [hv] at this
          exact this
        refine ⟨o, _, rfl, hoT.ends, ?_⟩
        refine ⟨e, _, rfl, hg, ?_⟩
        refine ⟨_, .str "none", .inl (.inl (.inl et)), rfl, ?_⟩
        refine ⟨o, _, rfl, hoT.ends, ?_⟩
        refine ⟨e, rfl, .inl ⟨_, .inl hoT.2⟩, kvI es, .inl lo, hoT.2, rfl, ?_⟩
        rw [kvI_val, hv]
        refine ⟨(fun v ev => by cases ev), fun _ => ?_⟩
        show bQ H Q (.bl (decide (V.str "none" = V.str "none"))) _
        rw [decide_eq_true rfl]
        exact bQ.same wf sT kk
      | some m =>
        refine ⟨x, c.Hand, dx, _, rfl, hx, rfl, rfl, x, nm, ap, es, rfl, rfl, ha, wf, .inl ⟨lo, m, rfl, lo0, hv, fun dx' dk' hx' hd' => ?_⟩⟩
        obtain rfl : dk = dk' := by
          rw [hx] at hx'
          cases hx'
          rfl
        have kk := kS rfl (by rw [hv]; rfl)
        have ho2 : OwnH (upd H dk (.dK (kvI (dropI es lo)))) o e ap es := ⟨(upd_ne n1).trans ho.1, (upd_ne nde.symm).trans ho.2⟩
        have w2 := wf.at (o := .dK (kvI (dropI es lo))) trivial hd fun _ z => by cases z
        have kp2 : ∀ b u, H b = some u → ∃ u', (upd H dk (.dK (kvI (dropI es lo)))) b = some u' := fun b u eb => by
          by_cases hb : b = dk
          · exact ⟨_, by rw [hb]; exact upd_same⟩
          · exact ⟨u, (upd_ne hb).trans eb⟩
        generalize upd H dk (.dK (kvI (dropI es lo))) = H2 at ho2 w2 kk kp2 ⊢
        refine ⟨line_of (show 2 ≤ 16777216 by decide), fun t nt => ?_⟩
        have sT := same_new (o := .lst [.str "none", .str "gone"]) nt
        have wT := w2.new (o := .lst [.str "none", .str "gone"]) trivial nt
        have et : (upd H2 t (.lst [.str "none", .str "gone"])) t = some (.lst [.str "none", .str "gone"]) := upd_same
        generalize upd H2 t (.lst [.str "none", .str "gone"]) = HT at sT wT et ⊢
        have hoT := ho2.same sT
        have hg : DGet HT e (.int lo) (some (.int m)) := by
          have := hoT.val lo
          rw [hv] at this
          exact this
        refine ⟨o, _, rfl, hoT.ends, ?_⟩
        refine ⟨e, _, rfl, hg, ?_⟩
        refine ⟨_, .str "gone", .inl (.inl (.inl et)), rfl, ?_⟩
        refine ⟨o, _, rfl, hoT.ends, ?_⟩
        refine ⟨e, rfl, .inl ⟨_, .inl hoT.2⟩, kvI es, .inl lo, hoT.2, rfl, ?_⟩
        rw [kvI_val, kvI_drop, hv]
        refine ⟨fun v ev => ?_, fun z => by cases z⟩
        cases ev
        show bQ H Q (.bl (decide (V.str "gone" = V.str "gone"))) _
        rw [decide_eq_true rfl]
        refine ⟨upd H2 e (.dK (kvI (dropI es lo))), ⟨fun b u eb => ?_, fun b u eb => ?_, w2.at (o := .dK (kvI (dropI es lo))) trivial ho2.2 fun _ z => by cases z⟩, kk⟩
        · by_cases hb : b = e
          · rw [hb, upd_same] at eb ⊢
            exact eb
          · rw [upd_ne hb] at eb ⊢
            exact sT _ _ eb
        · by_cases hb : b = e
          · rw [hb, upd_same, upd_same]
          · obtain ⟨u', e'⟩ := kp2 b u eb
            rw [upd_ne hb, upd_ne hb, e', sT _ _ e']

structure Sid where
  x : Addr
  dk : Addr
  o : Addr
  e : Addr
  nm : Str
  ap : Int
/-- a hand and the law's own of it -/
structure Sd (C : Addr) (H : Hp) (A : Sid) (es : List (Int × Int)) : Prop where
  hx : ∃ dx, H A.x = some (.ins C dx (fsH A.nm A.ap A.dk))
  hk : H A.dk = some (.dK (kvI es))
  ho : OwnH H A.o A.e A.ap es
  ue : (es.map (·.1)).Nodup
theorem own_ne {e : Addr} {ap : Int} {fs : List (Int × Int)} : HO.dK (ownO e ap) ≠ HO.dK (kvI fs) := fun z => by
  cases fs with
  | nil => cases z
  | cons p r =>
    unfold ownO kvI at z
    rw [List.map_cons] at z
    injection z with z
    injection z with z1 z2
    cases z1
theorem Sd.keep {C : Addr} {H H' : Hp} {A : Sid} {es : List (Int × Int)} (S : Sd C H A es) (k : ∀ b o, (b = A.x ∨ b = A.dk ∨ b = A.o ∨ b = A.e) → H b = some o → H' b = some o) : Sd C H' A es := by
  obtain ⟨dx, h⟩ := S.hx
  exact ⟨⟨dx, k _ _ (.inl rfl) h⟩, k _ _ (.inr (.inl rfl)) S.hk, ⟨k _ _ (.inr (.inr (.inl rfl))) S.ho.1, k _ _ (.inr (.inr (.inr rfl))) S.ho.2⟩, S.ue⟩
theorem Sd.hand {C : Addr} {H : Hp} {A : Sid} {es : List (Int × Int)} (S : Sd C H A es) : HandAt C H A.x A.nm A.ap es := by
  obtain ⟨dx, h⟩ := S.hx
  exact ⟨dx, A.dk, h, S.hk⟩
/-- both, and the lists of the law -/
structure Big (C : Addr) (H0 H : Hp) (n p l h w : Addr) (ls : List Int) (A B : Sid) (ea eb : List (Int × Int)) : Prop where
  sa : Sd C H A ea
  sb : Sd C H B eb
  d1 : A.dk ≠ A.e
  d2 : B.dk ≠ B.e
  d3 : A.dk ≠ B.dk
  d4 : A.dk ≠ B.e
  d5 : B.dk ≠ A.e
  d6 : A.e ≠ B.e
  f1 : H0 A.dk = none
  f2 : H0 A.e = none
  f3 : H0 B.dk = none
  f4 : H0 B.e = none
  cn : H n = some (.lst [.str A.nm, .str B.nm])
  cp : H p = some (.lst [.int A.ap, .int B.ap])
  cl : H l = some (.lst (ls.map V.int))
  ch : H h = some (.lst [.ref A.x, .ref B.x])
  cw : H w = some (.lst [.ref A.o, .ref B.o])
  sm : Same H0 H
  wf : Wf H
section
variable {C : Addr} {H0 H H' : Hp} {n p l h w : Addr} {ls : List Int} {A B : Sid} {ea eb fs : List (Int × Int)}
theorem Big.keep (G : Big C H0 H n p l h w ls A B ea eb) {a : Addr} {us : List V} (ha : H a = some (.lst us)) (k : ∀ b o, b ≠ a → H b = some o → H' b = some o) (n1 : n ≠ a) (n2 : p ≠ a) (n3 : l ≠ a) (n4 : h ≠ a) (n5 : w ≠ a) (f : H0 a = none) (w' : Wf H') : Big C H0 H' n p l h w ls A B ea eb := by
  have ka : ∀ {A : Sid} {es : List (Int × Int)}, Sd C H A es → Sd C H' A es := fun {A es} S => S.keep fun b o hb e => by
    refine k b o (fun z => ?_) e
    obtain ⟨dx, hx⟩ := S.hx
    rcases hb with rfl | rfl | rfl | rfl
    · rw [z, ha] at hx; cases hx
    · have := S.hk; rw [z, ha] at this; cases this
    · have := S.ho.1; rw [z, ha] at this; cases this
    · have := S.ho.2; rw [z, ha] at this; cases this
  exact ⟨ka G.sa, ka G.sb, G.d1, G.d2, G.d3, G.d4, G.d5, G.d6, G.f1, G.f2, G.f3, G.f4, k _ _ n1 G.cn, k _ _ n2 G.cp, k _ _ n3 G.cl, k _ _ n4 G.ch, k _ _ n5 G.cw, fun b o e => k b o (ne_of_none e f) (G.sm b o e), w'⟩
theorem Big.same (G : Big C H0 H n p l h w ls A B ea eb) (s : Same H H') (w' : Wf H') : Big C H0 H' n p l h w ls A B ea eb :=
  ⟨G.sa.keep fun b o _ e => s b o e, G.sb.keep fun b o _ e => s b o e, G.d1, G.d2, G.d3, G.d4, G.d5, G.d6, G.f1, G.f2, G.f3, G.f4, s _ _ G.cn, s _ _ G.cp, s _ _ G.cl, s _ _ G.ch, s _ _ G.cw, G.sm.trans s, w'⟩
def put2 (H : Hp) (A : Sid) (fs : List (Int × Int)) : Hp := upd (upd H A.dk (.dK (kvI fs))) A.e (.dK (kvI fs))
theorem put2_ne {b : Addr} (h1 : b ≠ A.dk) (h2 : b ≠ A.e) : put2 H A fs b = H b := by
  unfold put2
  rw [upd_ne h2, upd_ne h1]
theorem Sd.set (S : Sd C H A ea) (nd : A.dk ≠ A.e) (uf : (fs.map (·.1)).Nodup) : Sd C (put2 H A fs) A fs := by
  obtain ⟨dx, hx⟩ := S.hx
  refine ⟨⟨dx, ?_⟩, ?_, ⟨?_, ?_⟩, uf⟩
  · rw [put2_ne (ne_of hx S.hk fun z => by cases z) (ne_of hx S.ho.2 fun z => by cases z)]
    exact hx
  · unfold put2
    rw [upd_ne nd]
    exact upd_same
  · rw [put2_ne (ne_of S.ho.1 S.hk own_ne) (ne_of S.ho.1 S.ho.2 own_ne)]
    exact S.ho.1
  · exact upd_same
theorem put2_wf (S : Sd C H A ea) (nd : A.dk ≠ A.e) (w : Wf H) : Wf (put2 H A fs) :=
  (w.at (o := .dK (kvI fs)) trivial S.hk fun _ z => by cases z).at (o := .dK (kvI fs)) trivial ((upd_ne nd.symm).trans S.ho.2) fun _ z => by cases z
theorem put2_lst (S : Sd C H A ea) {b : Addr} {us : List V} (h : H b = some (.lst us)) : put2 H A fs b = some (.lst us) := by
  rw [put2_ne (ne_of h S.hk fun z => by cases z) (ne_of h S.ho.2 fun z => by cases z)]
  exact h
theorem put2_off (S : Sd C H A ea) {T : Sid} {et : List (Int × Int)} (Z : Sd C H T et) (h1 : T.dk ≠ A.dk) (h2 : T.dk ≠ A.e) (h3 : T.e ≠ A.dk) (h4 : T.e ≠ A.e) : Sd C (put2 H A fs) T et := by
  refine Z.keep fun b o hb e => ?_
  obtain ⟨dx, hx⟩ := Z.hx
  rcases hb with rfl | rfl | rfl | rfl
  · rw [put2_ne (ne_of hx S.hk fun z => by cases z) (ne_of hx S.ho.2 fun z => by cases z)]
    exact e
  · rw [put2_ne h1 h2]
    exact e
  · rw [put2_ne (ne_of Z.ho.1 S.hk own_ne) (ne_of Z.ho.1 S.ho.2 own_ne)]
    exact e
  · rw [put2_ne h3 h4]
    exact e
theorem Big.setA (G : Big C H0 H n p l h w ls A B ea eb) (uf : (fs.map (·.1)).Nodup) : Big C H0 (put2 H A fs) n p l h w ls A B fs eb :=
  ⟨G.sa.set G.d1 uf, put2_off G.sa G.sb G.d3.symm G.d5 G.d4.symm G.d6.symm, G.d1, G.d2, G.d3, G.d4, G.d5, G.d6, G.f1, G.f2, G.f3, G.f4, put2_lst G.sa G.cn, put2_lst G.sa G.cp, put2_lst G.sa G.cl, put2_lst G.sa G.ch, put2_lst G.sa G.cw, fun b o e => by
    rw [put2_ne (ne_of_none e G.f1) (ne_of_none e G.f2)]
    exact G.sm b o e, put2_wf G.sa G.d1 G.wf⟩
theorem Big.setB (G : Big C H0 H n p l h w ls A B ea eb) (uf : (fs.map (·.1)).Nodup) : Big C H0 (put2 H B fs) n p l h w ls A B ea fs :=
  ⟨put2_off G.sb G.sa G.d3 G.d4 G.d5.symm G.d6, G.sb.set G.d2 uf, G.d1, G.d2, G.d3, G.d4, G.d5, G.d6, G.f1, G.f2, G.f3, G.f4, put2_lst G.sb G.cn, put2_lst G.sb G.cp, put2_lst G.sb G.cl, put2_lst G.sb G.ch, put2_lst G.sb G.cw, fun b o e => by
    rw [put2_ne (ne_of_none e G.f3) (ne_of_none e G.f4)]
    exact G.sm b o e, put2_wf G.sb G.d2 G.wf⟩
end
theorem put_keys {es : List (Int × Int)} (nd : (es.map (·.1)).Nodup) (n v : Int) : ((putI es n v).map (·.1)).Nodup ∧ (putI es n v).length ≤ es.length + 1 := by
  unfold putI
  split
  · rename_i g
    rw [List.map_map, List.length_map]
    have : (es.map ((fun p : Int × Int => p.1) ∘ fun p => if p.1 = n then (p.1, v) else p)) = es.map (·.1) := List.map_congr_left fun p _ => by
      show (if p.1 = n then (p.1, v) else p).1 = p.1
      split <;> rfl
    rw [this]
    exact ⟨nd, Nat.le_succ _⟩
  · rename_i g
    rw [List.map_append, List.nodup_append, List.length_append]
    refine ⟨⟨nd, List.nodup_cons.mpr ⟨fun z => (by cases z), List.nodup_nil⟩, fun a ha b hb e => g ?_⟩, Nat.le_refl _⟩
    obtain ⟨q, hq, rfl⟩ := List.mem_map.mp ha
    have : b = n := by simpa using hb
    rw [List.any_eq_true]
    exact ⟨q, hq, decide_eq_true (e.trans this)⟩
theorem drop_keys {es : List (Int × Int)} (nd : (es.map (·.1)).Nodup) (n : Int) : ((dropI es n).map (·.1)).Nodup ∧ (dropI es n).length ≤ es.length + 1 :=
  ⟨nd.sublist ((List.filter_sublist ..).map _), Nat.le_trans (List.length_filter_le _ _) (Nat.le_succ _)⟩
theorem dr_free {a b : Addr} {H H' : Hp} (d : Dr a H H') (s : St2 H a) (n : H' b = none) : H b = none := by
  cases e : H b with
  | none => rfl
  | some o =>
    by_cases h : b = a
    · obtain ⟨_, _, e2, _⟩ := d.st
      rw [h, e2] at n
      cases n
    · rw [d.kp b o h e] at n
      cases n
theorem own_made {H : Hp} {o e : Addr} {ap : Int} (w : Wf H) (no : H o = none) (ne : (upd H o (.dK [])) e = none) : Same H (upd (upd (upd H o (.dK [])) e (.dK [])) o (.dK (ownO e ap))) ∧ OwnH (upd (upd (upd H o (.dK [])) e (.dK [])) o (.dK (ownO e ap))) o e ap [] ∧ H e = none ∧ Wf (upd (upd (upd H o (.dK [])) e (.dK [])) o (.dK (ownO e ap))) := by
  have noe : e ≠ o := fun z => by
    rw [z, upd_same] at ne
    cases ne
  have he : H e = none := (upd_ne noe).symm.trans ne
  refine ⟨fun b u h => ?_, ⟨upd_same, (upd_ne noe).trans upd_same⟩, he, ?_⟩
  · rw [upd_ne (ne_of_none h no), upd_ne (ne_of_none h he), upd_ne (ne_of_none h no)]
    exact h
  · exact ((w.new (o := .dK []) trivial no).new (o := .dK []) trivial ne).at (o := .dK (ownO e ap)) (u := .dK []) trivial ((upd_ne noe.symm).trans upd_same) fun _ z => by cases z
def NmAt (H : Hp) (v : V) (A : Sid) : Prop := ∃ t, v = .ref t ∧ H t = some (.tup [.str A.nm, .int A.ap])
theorem NmAt.same {H H' : Hp} {v : V} {A : Sid} (s : Same H H') (h : NmAt H v A) : NmAt H' v A := by
  obtain ⟨t, e, h⟩ := h
  exact ⟨t, e, s _ _ h⟩
def pk {α : Type} (a b : α) (j : Int) : α := if j = 0 then a else b
theorem pk_at {u v : V} {j : Int} (h : j = 0 ∨ j = 1) : atI [u, v] j = some (pk u v j) := by
  rcases h with rfl | rfl <;> rfl

abbrev s_law : Stmt := topS 29
abbrev N_law : List Str := ["_law_script", "_law_state_here", "_law_names", "_law_aparts", "_law_loans_here", "_law_base", "_law_hands", "_law_owns", "_law_k", "_law_at", "_law_forgets", "_law_both", "_law_loan", "_law_end_here", "_law_one", "_law_clock", "_law_number", "_law_hand"]
theorem sc_law : FnScope N_law ["_law_script"] (defScope s_law) := ⟨rfl, rfl, rfl, by decide +kernel, rfl, by decide +kernel, by decide +kernel⟩
def sp_law (K : PySem.W.Frag) : Sp := fun vs H Q E => arg1 (fun s => ∃ ns, ScrL K H s ns ∧ Wf H ∧ ∀ H', Q (.bl true) H') vs
theorem ok_law {P : Program} {w : World} {K : PySem.W.Frag} {mg : Str → Option Value} {base : Heap} {f : Addr} {fd : FuncData} (F : Fun K "law" "law" s_law f fd) {c : Ad} (T : Txt K mg c) : FnOk P w K mg base CX0 6 f fd ["_law_script"] (sp_law K) := by
  refine F.ok sc_law (fun vs H Q E h => ?_) (fun cdv A outer sh H vs Q E hr h => ?_)
  · obtain ⟨s, rfl, h⟩ := arg1.ex h
    rfl
  · obtain ⟨s, rfl, h⟩ := arg1.ex h
    refine ⟨_, pss_cons (ps_set (i := 1) sc_law.nd rfl (.inl rfl) (pe_f (ok__law_state (K := K) T) (hr.mono (by decide)) passN (pa_cons (pe_f (ok__law_cell_at (K := K) T) (hr.mono (by decide)) passN (pa_cons (lv 0) (pa_cons pe_int pa_nil))) (pa_cons pe_int pa_nil))))
      (pss_cons (ps_set (i := 2) sc_law.nd rfl (.inl rfl) (pe_lst (pa_cons (pe_f (ok__law_name (K := K) T) (hr.mono (by decide)) passN (pa_cons (lv 1) pa_nil)) (pa_cons (pe_f (ok__law_name (K := K) T) (hr.mono (by decide)) passN (pa_cons (lv 1) pa_nil)) pa_nil))))
      (pss_cons (ps_set (i := 3) sc_law.nd rfl (.inl rfl) (pe_lst (pa_cons (pe_f (ok__law_apart (K := K) T) (hr.mono (by decide)) passN (pa_cons (lv 1) pa_nil)) (pa_cons (pe_f (ok__law_apart (K := K) T) (hr.mono (by decide)) passN (pa_cons (lv 1) pa_nil)) pa_nil))))
      (pss_cons (ps_asg (pe_ix (ixU (K := K)) (lv 2) (pe_f (ok__law_digit (K := K) T) (hr.mono (by decide)) passN (pa_cons (lv 1) (pa_cons pe_int pa_nil))) (fun _ _ => rfl)) (pg_sub (lv 2) pe_int setU))
      (pss_cons (ps_set (i := 4) sc_law.nd rfl (.inl rfl) (pe_slice (slU (K := K)) (pe_f (ok__law_loans (K := K) T) (hr.mono (by decide)) passN (pa_cons (lv 1) pa_nil)) po_none (po_someU pe_int)))
      (pss_cons (ps_set (i := 5) sc_law.nd rfl (.inl rfl) (pe_ix (ixU (K := K)) (pe_lst (pa_cons pe_int (pa_cons (pe_f (ok__law_digit (K := K) T) (hr.mono (by decide)) passN (pa_cons (lv 1) (pa_cons (pe_op opU_pow pe_int pe_int) pa_nil))) pa_nil))) (pe_f (ok__law_digit (K := K) T) (hr.mono (by decide)) passN (pa_cons (lv 1) (pa_cons pe_int pa_nil))) (fun _ _ => rfl)))
      (pss_cons (ps_set (i := 6) sc_law.nd rfl (.inl rfl) (pe_lst (pa_cons (pe_mkS (ok_Hand___init__ (K := K) T (x := "Hand") ⟨rfl, rfl⟩) (hr.mono (by decide)) takesN (pa_cons (pe_ix (ixU (K := K)) (lv 2) pe_int (fun _ _ => rfl)) (pa_cons (pe_ix (ixU (K := K)) (lv 3) pe_int (fun _ _ => rfl)) pa_nil))) (pa_cons (pe_mkS (ok_Hand___init__ (K := K) T (x := "Hand") ⟨rfl, rfl⟩) (hr.mono (by decide)) takesN (pa_cons (pe_ix (ixU (K := K)) (lv 2) pe_int (fun _ _ => rfl)) (pa_cons (pe_ix (ixU (K := K)) (lv 3) pe_int (fun _ _ => rfl)) pa_nil))) pa_nil))))
      (pss_cons (ps_set (i := 7) sc_law.nd rfl (.inl rfl) (pe_lst (pa_cons (pe_disp (pps_cons pe_str pe_dnewK (pps_cons pe_str (pe_ix (ixU (K := K)) (lv 3) pe_int (fun _ _ => rfl)) pps_nil)) (by rfl) (by rfl) (fun z => by cases z) (by decide)) (pa_cons (pe_disp (pps_cons pe_str pe_dnewK (pps_cons pe_str (pe_ix (ixU (K := K)) (lv 3) pe_int (fun _ _ => rfl)) pps_nil)) (by rfl) (by rfl) (fun z => by cases z) (by decide)) pa_nil))))
      (pss_cons (ps_for (PassesOwn.never) rfl (pi_range2 (by rfl) T.m_range (pa_cons pe_int (pa_cons (pe_callB (callU_max2 rfl) (by rfl) T.m_max (by decide +kernel) (pa_cons pe_int (pa_cons (pe_callB (callU_min2 rfl) (by rfl) T.m_min (by decide +kernel) (pa_cons pe_int (pa_cons (pe_callB (callU_len (K := K)) (by rfl) T.m_len (by decide +kernel) (pa_cons (lv 0) pa_nil)) pa_nil))) pa_nil))) pa_nil))) (pg_name (i := 8) sc_law.nd rfl (.inl rfl))
      (pss_cons (ps_set (i := 1) sc_law.nd rfl (.inl rfl) (pe_f (ok__law_state (K := K) T) (hr.mono (by decide)) passN (pa_cons (pe_f (ok__law_cell_at (K := K) T) (hr.mono (by decide)) passN (pa_cons (lv 0) (pa_cons (lv 8) pa_nil))) (pa_cons (lv 8) pa_nil))))
      (pss_cons (ps_set (i := 9) sc_law.nd rfl (.inl rfl) (pe_f (ok__law_digit (K := K) T) (hr.mono (by decide)) passN (pa_cons (lv 1) (pa_cons pe_int pa_nil))))
      (pss_cons (ps_set (i := 10) sc_law.nd rfl (.inl rfl) (pe_cmpR (opU_eq (K := K) hr) (pe_f (ok__law_digit (K := K) T) (hr.mono (by decide)) passN (pa_cons (lv 1) (pa_cons pe_int pa_nil))) pe_int (nomark _)))
      (pss_cons (ps_set (i := 11) sc_law.nd rfl (.inl rfl) (pe_cmpR (opU_eq (K := K) hr) (pe_f (ok__law_digit (K := K) T) (hr.mono (by decide)) passN (pa_cons (lv 1) (pa_cons pe_int pa_nil))) pe_int (nomark _)))
      (pss_cons (ps_set (i := 12) sc_law.nd rfl (.inl rfl) (pe_ix (ixU (K := K)) (lv 4) (pe_f (ok__law_digit (K := K) T) (hr.mono (by decide)) passN (pa_cons (lv 1) (pa_cons pe_int pa_nil))) (fun _ _ => rfl)))
      (pss_cons (ps_set (i := 13) sc_law.nd rfl (.inl rfl) (pe_f (ok__law_end (K := K) T) (hr.mono (by decide)) passN (pa_cons (lv 1) (pa_cons (lv 5) pa_nil))))
      (pss_cons (ps_for (PassesOwn.never) rfl (pi_listK (K := K) (pe_slice (slU (K := K)) (pe_lst (pa_cons (lv 9) (pa_cons (pe_op opU_sub pe_int (lv 9)) pa_nil))) po_none (po_someU (pe_op (opU_add (K := K)) pe_int (pe_callTy callU_int (by rfl) T.m_int (by decide +kernel) (pa_cons (lv 11) pa_nil)))))) (pg_name (i := 14) sc_law.nd rfl (.inl rfl))
      (pss_one (ps_if (pt_not (pt_truthU (K := K) (pe_f (ok__law_step (K := K) T) hr passN (pa_cons (pe_ix (ixU (K := K)) (lv 6) (lv 14) (fun _ _ => rfl)) (pa_cons (pe_ix (ixU (K := K)) (lv 7) (lv 14) (fun _ _ => rfl)) (pa_cons (lv 10) (pa_cons (lv 12) (pa_cons (lv 13) pa_nil)))))) (by intro _; rfl)))
      (pss_one (ps_ret pe_bl)) pss_nil)))
      (pss_one (ps_for (PassesOwn.never) rfl (pi_listK (K := K) (pe_lst (pa_cons (lv 5) (pa_cons (lv 13) (pa_cons (pe_callB (callU_max2 rfl) (by rfl) T.m_max (by decide +kernel) (pa_cons pe_int (pa_cons (pe_op opU_sub (lv 13) (pe_ix (ixU (K := K)) (lv 3) pe_int (fun _ _ => rfl))) pa_nil))) (pa_cons (pe_op (opU_add (K := K)) (lv 13) (pe_ix (ixU (K := K)) (lv 3) pe_int (fun _ _ => rfl))) (pa_cons (pe_f (ok__law_digit (K := K) T) (hr.mono (by decide)) passN (pa_cons (lv 1) (pa_cons (pe_op opU_pow pe_int pe_int) pa_nil))) pa_nil))))))) (pg_name (i := 15) sc_law.nd rfl (.inl rfl))
      (pss_one (ps_for (PassesOwn.never) rfl (pi_listK (K := K) (pe_lst (pa_cons pe_int (pa_cons pe_int (pa_cons pe_int pa_nil))))) (pg_name (i := 14) sc_law.nd rfl (.inl rfl))
      (pss_cons (ps_for (PassesOwn.never) rfl (pi_listK (K := K) (lv 4)) (pg_name (i := 16) sc_law.nd rfl (.inl rfl))
      (pss_one (ps_if (pt_cmpU (opU_ne (K := K) hr) (pe_f (ok__law_told (K := K) T) hr passN (pa_cons (pe_ix (ixU (K := K)) (lv 6) (lv 14) (fun _ _ => rfl)) (pa_cons (lv 16) (pa_cons (lv 15) pa_nil)))) (pe_f (ok__law_due (K := K) T) (hr.mono (by decide)) passN (pa_cons (pe_ix (ixU (K := K)) (lv 7) (lv 14) (fun _ _ => rfl)) (pa_cons (lv 16) (pa_cons (lv 15) pa_nil)))) (nomark _))
      (pss_one (ps_ret pe_bl)) pss_nil)))
      (pss_one (ps_if (pt_not (pt_truthU (K := K) (pe_f (ok__law_lists_right (K := K) T) hr passN (pa_cons (pe_ix (ixU (K := K)) (lv 6) (lv 14) (fun _ _ => rfl)) (pa_cons (pe_ix (ixU (K := K)) (lv 7) (lv 14) (fun _ _ => rfl)) (pa_cons (lv 15) pa_nil)))) (by intro _; rfl)))
      (pss_one (ps_ret pe_bl)) pss_nil)))))))))))))))
      (pss_one (ps_ret (pe_cmpR (opU_eq (K := K) hr) (pe_lc (own := [("_law_hand", 17)]) (g := gName 17) rfl sc_law.nd (pi_listK (K := K) (lv 6)) (blkOk_by (own := [("_law_hand", 17)]) (N := N_law) (sc := defScope s_law) (by decide +kernel)) (fun _ _ _ _ _ => pg_name (i := 17) sc_law.nd rfl (.inl rfl)) (fun _ _ _ _ _ => pts_nil) (fun _ _ _ _ _ => pe_tup (pa_cons (pe_fldK (K := K) (lv 17) rfl) (pa_cons (pe_fldK (K := K) (lv 17) rfl) pa_nil)))) (pe_listZip (by rfl) T.m_list (by rfl) T.m_zip (pa_cons (lv 2) (pa_cons (lv 3) pa_nil))) (nomark _)))))))))))), ?_⟩
    obtain ⟨ns, ⟨a0, rfl, hS, hl⟩, wf, k⟩ := h
    refine ⟨ns, 0, ⟨a0, rfl, hS, hl⟩, rfl, by decide, wf, fun n => ?_⟩
    refine ⟨n, 0, rfl, rfl, by decide, by decide, wf, fun p q a na hp => ?_⟩
    have s0 : St2 (upd H a (stL p q)) a := ⟨p, q, upd_same, hp⟩
    have d0 := Dr.refl s0 (wf.new (o := stL p q) trivial na)
    have smA : Same H (upd H a (stL p q)) := same_new na
    have smH : ∀ {H2 : Hp}, Dr a (upd H a (stL p q)) H2 → Same H H2 := fun {H2} d b o e => d.kp b o (ne_of_none e na) (smA b o e)
    generalize upd H a (stL p q) = HB0 at s0 d0 smH ⊢
    refine ⟨a, rfl, s0, d0.wf, fun nm p1 q1 snm n1 => ?_⟩
    have d1 := d0.drawn (q := q1) n1
    generalize upd HB0 a (stL p1 q1) = H1 at d1 ⊢
    refine ⟨a, rfl, d1.st, d1.wf, fun nm2 p2 q2 snm2 n2 => ?_⟩
    have d2 := d1.drawn (q := q2) n2
    generalize upd H1 a (stL p2 q2) = H2 at d2 ⊢
    refine ⟨line_of (show 2 ≤ 16777216 by decide), fun N nN => ?_⟩
    have neN := st_ne d2.st nN
    have d3 := d2.new (p := N) (o := .lst [.str nm, .str nm2]) nN trivial
    have eN : (upd H2 N (.lst [.str nm, .str nm2])) N = some (.lst [.str nm, .str nm2]) := upd_same
    generalize upd H2 N (.lst [.str nm, .str nm2]) = H3 at d3 eN  ⊢
    refine ⟨a, rfl, d3.st, d3.wf, fun ap H4 ap0 ap1 dA => ?_⟩
    have d4 := d3.trans dA
    replace eN := dA.kp _ _ neN eN
    refine ⟨a, rfl, d4.st, d4.wf, fun ap2 H5 ap20 ap21 dA2 => ?_⟩
    have d5 := d4.trans dA2
    replace eN := dA2.kp _ _ neN eN
    refine ⟨line_of (show 2 ≤ 16777216 by decide), fun P nP => ?_⟩
    have neP := st_ne d5.st nP
    have d6 := d5.new (p := P) (o := .lst [.int ap, .int ap2]) nP trivial
    replace eN := same_new (o := .lst [.int ap, .int ap2]) nP _ _ eN
    have eP : (upd H5 P (.lst [.int ap, .int ap2])) P = some (.lst [.int ap, .int ap2]) := upd_same
    generalize upd H5 P (.lst [.int ap, .int ap2]) = H6 at d6 eP eN ⊢
    refine ⟨a, 2, rfl, rfl, d6.st, bas_lt (by decide) (by decide), d6.wf, fun r7 p7 q7 g7 l7 n7 => ?_⟩
    have d7 := d6.drawn (q := q7) n7
    replace eN := (upd_ne (o := stL p7 q7) neN).trans eN
    replace eP := (upd_ne (o := stL p7 q7) neP).trans eP
    generalize upd H6 a (stL p7 q7) = H7 at d7 eN eP ⊢
    obtain ⟨v, hv, mv⟩ := at_lt (xs := [V.str nm, .str nm2]) g7 (by exact l7)
    refine ⟨_, v, .inl (.inl (.inl eN)), hv, ?_⟩
    obtain ⟨nmB, rfl, snB⟩ : ∃ z, v = .str z ∧ NameS z := by
      simp only [List.mem_cons, List.not_mem_nil, or_false] at mv
      rcases mv with rfl | rfl
      · exact ⟨_, rfl, snm⟩
      · exact ⟨_, rfl, snm2⟩
    refine ⟨_, 1, eN, rfl, ?_⟩
    have hsN : ([V.str nm, .str nm2].set 1 (.str nmB) : List V) = [.str nm, .str nmB] := rfl
    rw [hsN]
    have cNP : P ≠ N := fun z => by rw [z, eN] at eP; cases eP
    have fN : HB0 N = none := dr_free d2 s0 nN
    have d8 : Dr a HB0 (upd H7 N (.lst [.str nm, .str nmB])) := ⟨fun b o nb e => (upd_ne (ne_of_none e fN)).trans (d7.kp b o nb e), by obtain ⟨p, q, e, h⟩ := d7.st; exact ⟨p, q, (upd_ne neN.symm).trans e, h⟩, d7.wf.at trivial eN fun _ z => by cases z⟩
    replace eP : (upd H7 N (.lst [.str nm, .str nmB])) P = some (.lst [.int ap, .int ap2]) := (upd_ne cNP).trans eP
    replace eN : (upd H7 N (.lst [.str nm, .str nmB])) N = some (.lst [.str nm, .str nmB]) := upd_same
    generalize upd H7 N (.lst [.str nm, .str nmB]) = H8 at d8 eP eN ⊢
    refine ⟨a, rfl, d8.st, d8.wf, fun R e_0 e_1 e_2 e_3 e_4 H9 dL eR neR g0' g1' g2' g3' g4' => ?_⟩
    have d9 := d8.trans dL
    replace eN := dL.kp _ _ neN eN
    replace eP := dL.kp _ _ neP eP
    refine .inl ⟨R, _, rfl, .inl (.inl eR), fun L nL => ?_⟩
    have hcL : cutV [V.int e_0, .int e_1, .int e_2, .int e_3, .int e_4] none (some 4) = [V.int e_0, .int e_1, .int e_2, .int e_3] := rfl
    rw [hcL]
    have sL := same_new (o := .lst [V.int e_0, .int e_1, .int e_2, .int e_3]) nL
    have neL : L ≠ a := fun z => by
      obtain ⟨_, _, e, _⟩ := d9.st
      rw [z, e] at nL
      cases nL
    have dA' := d9.new (p := L) (o := .lst [V.int e_0, .int e_1, .int e_2, .int e_3]) nL trivial
    have eL : (upd H9 L (.lst [V.int e_0, .int e_1, .int e_2, .int e_3])) L = some (.lst ([e_0, e_1, e_2, e_3].map V.int)) := upd_same
    replace eN := sL _ _ eN
    replace eP := sL _ _ eP
    generalize upd H9 L (.lst [V.int e_0, .int e_1, .int e_2, .int e_3]) = HA at dA' eN eP eL ⊢
    clear dA dA2 dL sL eR
    have dA := dA'
    refine ⟨⟨by decide, by decide, by decide⟩, ?_⟩
    refine ⟨a, _, rfl, rfl, dA.st, bas_lt (by decide) (by decide), dA.wf, fun rB pB qB gB lB nB => ?_⟩
    have dB := dA.drawn (q := qB) nB
    replace eN := (upd_ne (o := stL pB qB) neN).trans eN
    replace eP := (upd_ne (o := stL pB qB) neP).trans eP
    replace eL := (upd_ne (o := stL pB qB) neL).trans eL
    generalize upd HA a (stL pB qB) = HB at dB eN eP eL ⊢
    have lB' : rB < 1000000000000 := lB
    refine ⟨line_of (show 2 ≤ 16777216 by decide), fun bl nbl => ?_⟩
    have nebl := st_ne dB.st nbl
    have dC := dB.new (p := bl) (o := .lst [.int 40, .int rB]) nbl trivial
    replace eN := same_new (o := .lst [.int 40, .int rB]) nbl _ _ eN
    replace eP := same_new (o := .lst [.int 40, .int rB]) nbl _ _ eP
    replace eL := same_new (o := .lst [.int 40, .int rB]) nbl _ _ eL
    have ebl : (upd HB bl (.lst [.int 40, .int rB])) bl = some (.lst [.int 40, .int rB]) := upd_same
    generalize upd HB bl (.lst [.int 40, .int rB]) = HC at dC ebl eN eP eL ⊢
    refine ⟨a, 2, rfl, rfl, dC.st, bas_lt (by decide) (by decide), dC.wf, fun rD pD qD gD lD nD => ?_⟩
    have dD := dC.drawn (q := qD) nD
    replace ebl := (upd_ne (o := stL pD qD) nebl).trans ebl
    replace eN := (upd_ne (o := stL pD qD) neN).trans eN
    replace eP := (upd_ne (o := stL pD qD) neP).trans eP
    replace eL := (upd_ne (o := stL pD qD) neL).trans eL
    generalize upd HC a (stL pD qD) = HD at dD ebl eN eP eL ⊢
    obtain ⟨v, hv, mv⟩ := at_lt (xs := [V.int 40, .int rB]) gD (by exact lD)
    refine ⟨_, v, .inl (.inl (.inl ebl)), hv, ?_⟩
    obtain ⟨base', rfl, b0, b1⟩ : ∃ b, v = .int b ∧ 0 ≤ b ∧ b ≤ 1000000000000 := by
      simp only [List.mem_cons, List.not_mem_nil, or_false] at mv
      rcases mv with rfl | rfl
      · exact ⟨_, rfl, by decide, by decide⟩
      · exact ⟨_, rfl, by omega, by omega⟩
    have smD := smH dD
    have wD := dD.wf
    clear hsN
    refine ⟨_, .str nm, .inl (.inl (.inl eN)), rfl, ?_⟩
    refine ⟨_, .int ap, .inl (.inl (.inl eP)), rfl, ?_⟩
    intro x dx nx nd ne
    have smX : Same HD (upd (upd HD dx (.own x)) x (.ins c.Hand dx [])) := fun b o e => by rw [upd_ne (ne_of_none e nx), upd_ne (ne_of_none e nd)]; exact e
    have wX := wD.made (C := c.Hand) (fs := []) nx nd ne
    refine ⟨x, dx, rfl, rfl, upd_same, wX, .inl ⟨nm, ap, rfl, rfl, snm, ap0, ap1, fun dk HE ndk hxE hdE kx wE => ⟨rfl, ?_⟩⟩⟩
    have smE : Same HD HE := fun b o e => kx b o (ne_of_none e nx) (smX b o e)
    have ndk2 : HD dk = none := smX.free ndk
    replace eN := smE _ _ eN
    replace eP := smE _ _ eP
    replace eL := smE _ _ eL
    refine ⟨_, .str nmB, .inl (.inl (.inl eN)), rfl, ?_⟩
    refine ⟨_, .int ap2, .inl (.inl (.inl eP)), rfl, ?_⟩
    intro y dy ny ndy ney
    have smY : Same HE (upd (upd HE dy (.own y)) y (.ins c.Hand dy [])) := fun b o e => by rw [upd_ne (ne_of_none e ny), upd_ne (ne_of_none e ndy)]; exact e
    have wY := wE.made (C := c.Hand) (fs := []) ny ndy ney
    refine ⟨y, dy, rfl, rfl, upd_same, wY, .inl ⟨nmB, ap2, rfl, rfl, snB, ap20, ap21, fun dk2 HF ndk2' hyF hdF kx2 wF => ⟨rfl, ?_⟩⟩⟩
    have smF : Same HE HF := fun b o e => kx2 b o (ne_of_none e ny) (smY b o e)
    have ndk3 : HE dk2 = none := smY.free ndk2'
    replace eN := smF _ _ eN
    replace eP := smF _ _ eP
    replace eL := smF _ _ eL
    have cdk : dk ≠ dk2 := ne_of_none hdE ndk3
    replace hxE := smF _ _ hxE
    replace hdE := smF _ _ hdE
    refine ⟨line_of (show 2 ≤ 16777216 by decide), fun hh nhh => ?_⟩
    have sG := same_new (o := .lst [.ref x, .ref y]) nhh
    have wG := wF.new (o := .lst [.ref x, .ref y]) trivial nhh
    have ehh : (upd HF hh (.lst [.ref x, .ref y])) hh = some (.lst [.ref x, .ref y]) := upd_same
    generalize upd HF hh (.lst [.ref x, .ref y]) = HG at sG wG ehh ⊢
    replace eN := sG _ _ eN
    replace eP := sG _ _ eP
    replace eL := sG _ _ eL
    replace hxE := sG _ _ hxE
    replace hdE := sG _ _ hdE
    replace hyF := sG _ _ hyF
    replace hdF := sG _ _ hdF
    refine fun o no => ?_
    refine fun e nee => ?_
    have eP1 : (upd (upd HG o (.dK [])) e (.dK [])) P = some (.lst [.int ap, .int ap2]) := same_new nee _ _ (same_new no _ _ eP)
    refine ⟨_, .int ap, .inl (.inl (.inl eP1)), rfl, ?_⟩
    have noe : o ≠ e := fun z => by
      rw [← z, upd_same] at nee
      cases nee
    refine ⟨(upd_ne noe).trans upd_same, [(.inr "ends", .ref e), (.inr "apart", .int ap)], rfl, Nat.le_of_ble_eq_true rfl, ?_⟩
    rw [show mergeK [] [((Sum.inr "ends" : Key), V.ref e), (.inr "apart", .int ap)] = ownO e ap from rfl]
    obtain ⟨sI, hoI, fe, wI⟩ := own_made (ap := ap) wG no nee
    generalize upd (upd (upd HG o (.dK [])) e (.dK [])) o (.dK (ownO e ap)) = HI at sI hoI wI ⊢
    replace ehh := sI _ _ ehh
    replace eN := sI _ _ eN
    replace eP := sI _ _ eP
    replace eL := sI _ _ eL
    have cdke : dk ≠ e := ne_of_none hdE fe
    have cdk2e : dk2 ≠ e := ne_of_none hdF fe
    replace hxE := sI _ _ hxE
    replace hdE := sI _ _ hdE
    replace hyF := sI _ _ hyF
    replace hdF := sI _ _ hdF
    refine fun o2 no2 => ?_
    refine fun e2 nee2 => ?_
    have eP2 : (upd (upd HI o2 (.dK [])) e2 (.dK [])) P = some (.lst [.int ap, .int ap2]) := same_new nee2 _ _ (same_new no2 _ _ eP)
    refine ⟨_, .int ap2, .inl (.inl (.inl eP2)), rfl, ?_⟩
    have noe2 : o2 ≠ e2 := fun z => by
      rw [← z, upd_same] at nee2
      cases nee2
    refine ⟨(upd_ne noe2).trans upd_same, [(.inr "ends", .ref e2), (.inr "apart", .int ap2)], rfl, Nat.le_of_ble_eq_true rfl, ?_⟩
    rw [show mergeK [] [((Sum.inr "ends" : Key), V.ref e2), (.inr "apart", .int ap2)] = ownO e2 ap2 from rfl]
    obtain ⟨sJ, hoJ, fe2, wJ⟩ := own_made (ap := ap2) wI no2 nee2
    generalize upd (upd (upd HI o2 (.dK [])) e2 (.dK [])) o2 (.dK (ownO e2 ap2)) = HJ at sJ hoJ wJ ⊢
    have cee : e ≠ e2 := ne_of_none hoI.2 fe2
    have cdke2 : dk ≠ e2 := ne_of_none hdE fe2
    have cdk2e2 : dk2 ≠ e2 := ne_of_none hdF fe2
    refine ⟨line_of (show 2 ≤ 16777216 by decide), fun ww nww => ?_⟩
    have sK := same_new (o := .lst [.ref o, .ref o2]) nww
    have wK := wJ.new (o := .lst [.ref o, .ref o2]) trivial nww
    have eww : (upd HJ ww (.lst [.ref o, .ref o2])) ww = some (.lst [.ref o, .ref o2]) := upd_same
    generalize upd HJ ww (.lst [.ref o, .ref o2]) = HK at sK wK eww ⊢
    have sDG : Same HD HG := (smE.trans smF).trans sG
    have sGK : Same HI HK := sJ.trans sK
    have sall : Same H HK := ((smD.trans sDG).trans sI).trans sGK
    have B0 : Big c.Hand H HK N P L hh ww [e_0, e_1, e_2, e_3] ⟨x, dk, o, e, nm, ap⟩ ⟨y, dk2, o2, e2, nmB, ap2⟩ [] [] :=
      ⟨⟨⟨dx, sGK _ _ hxE⟩, sGK _ _ hdE, hoI.same sGK, List.nodup_nil⟩, ⟨⟨dy, sGK _ _ hyF⟩, sGK _ _ hdF, hoJ.same sK, List.nodup_nil⟩, cdke, cdk2e2, cdk, cdke2, cdk2e, cee, smD.free ndk2, (smD.trans sDG).free fe, (smD.trans smE).free ndk3, ((smD.trans sDG).trans sI).free fe2, sGK _ _ eN, sGK _ _ eP, sGK _ _ eL, sGK _ _ ehh, eww, sall, wK⟩
    clear sGK sDG sK sJ sI sG smE smF smX smY eN eP eL ehh eww hxE hdE hyF hdF hoI hoJ
    refine .inl ⟨_, .inl (B0.sm.seq hS), ?_⟩
    refine ⟨1, _, rfl, ⟨by decide, by decide, by split <;> omega, by split <;> omega⟩, ?_⟩
    have hall : ∀ n ∈ [e_0, e_1, e_2, e_3], (0 : Int) ≤ n := fun n hn => by
      simp only [List.mem_cons, List.not_mem_nil, or_false] at hn
      rcases hn with rfl | rfl | rfl | rfl <;> omega
    generalize hLS : [e_0, e_1, e_2, e_3] = LS at B0 hall
    have lLS : (LS.map V.int).length = 4 := by rw [← hLS]; rfl
    obtain ⟨A1, hA1⟩ : ∃ A1 : Sid, A1 = ⟨x, dk, o, e, nm, ap⟩ := ⟨_, rfl⟩
    obtain ⟨B1, hB1⟩ : ∃ B1 : Sid, B1 = ⟨y, dk2, o2, e2, nmB, ap2⟩ := ⟨_, rfl⟩
    rw [← hA1, ← hB1] at B0
    have apA : 0 ≤ A1.ap := by rw [hA1]; exact ap0
    have apB : 0 ≤ B1.ap := by rw [hB1]; exact ap20
    have snA : NameS A1.nm := by rw [hA1]; exact snm
    have snB1 : NameS B1.nm := by rw [hB1]; exact snB
    clear hLS hA1 hB1
    refine for_range (lo := 1) (n := _) (fun i σ H' => ∃ (ea eb : List (Int × Int)) (v1 y8 y9 y10 y11 y12 y13 y14 y15 y16 y17 : Option V), σ = [some (.ref a0), v1, some (.ref N), some (.ref P), some (.ref L), some (.int base'), some (.ref hh), some (.ref ww), y8, y9, y10, y11, y12, y13, y14, y15, y16, y17] ∧ Big c.Hand H H' N P L hh ww LS A1 B1 ea eb ∧ ea.length ≤ 2 * i ∧ eb.length ≤ 2 * i) ⟨[], [], _, _, _, _, _, _, _, _, _, _, _, rfl, B0, Nat.zero_le _, Nat.zero_le _⟩ (fun i σ HL hi hp => ?_) (fun σ HM hp => ?_)
    · obtain ⟨ea, eb, v1, y8, y9, y10, y11, y12, y13, y14, y15, y16, y17, rfl, G, lea, leb⟩ := hp
      have hi2 : i < 25 := by split at hi <;> omega
      refine ⟨ns, _, ⟨a0, rfl, G.sm.seq hS, hl⟩, rfl, by omega, G.wf, fun n => ?_⟩
      refine ⟨n, _, rfl, rfl, by omega, by omega, G.wf, fun p q a na hp => ?_⟩
      have s0 : St2 (upd HL a (stL p q)) a := ⟨p, q, upd_same, hp⟩
      have dL0 := Dr.refl s0 (G.wf.new (o := stL p q) trivial na)
      have smA : Same HL (upd HL a (stL p q)) := same_new na
      have smL : ∀ {H2 : Hp}, Dr a (upd HL a (stL p q)) H2 → Same HL H2 := fun {H2} d b o e => d.kp b o (ne_of_none e na) (smA b o e)
      have zN := ne_of_none G.cn na
      have zP := ne_of_none G.cp na
      have zL := ne_of_none G.cl na
      have zh := ne_of_none G.ch na
      have zw := ne_of_none G.cw na
      have fa : H a = none := G.sm.free na
      generalize upd HL a (stL p q) = HL0 at s0 dL0 smL ⊢
      clear smA
      refine ⟨a, 2, rfl, rfl, dL0.st, bas_lt (by decide) (by decide), dL0.wf, fun rL1 pL1 qL1 gL1 lL1 nL1 => ?_⟩
      have dL1 := dL0.drawn (q := qL1) nL1
      generalize upd HL0 a (stL pL1 qL1) = HL1 at dL1  ⊢
      refine ⟨a, 4, rfl, rfl, dL1.st, bas_lt (by decide) (by decide), dL1.wf, fun rL2 pL2 qL2 gL2 lL2 nL2 => ?_⟩
      have dL2 := dL1.drawn (q := qL2) nL2
      generalize upd HL1 a (stL pL2 qL2) = HL2 at dL2  ⊢
      refine ⟨a, 3, rfl, rfl, dL2.st, bas_lt (by decide) (by decide), dL2.wf, fun rL3 pL3 qL3 gL3 lL3 nL3 => ?_⟩
      have dL3 := dL2.drawn (q := qL3) nL3
      generalize upd HL2 a (stL pL3 qL3) = HL3 at dL3  ⊢
      refine ⟨a, 4, rfl, rfl, dL3.st, bas_lt (by decide) (by decide), dL3.wf, fun rL4 pL4 qL4 gL4 lL4 nL4 => ?_⟩
      have dL4 := dL3.drawn (q := qL4) nL4
      generalize upd HL3 a (stL pL4 qL4) = HL4 at dL4  ⊢
      have G4 := G.same (smL dL4) dL4.wf
      obtain ⟨v, hv, mv⟩ := at_lt (xs := LS.map V.int) gL4 (by rw [lLS]; exact lL4)
      obtain ⟨lo, hlo, rfl⟩ := List.mem_map.mp mv
      refine ⟨_, .int lo, .inl (.inl (.inl G4.cl)), hv, ?_⟩
      have lo0 := hall lo hlo
      refine ⟨a, base', rfl, rfl, b0, by omega, dL4.st, dL4.wf, fun en HL5 f0 f1 dE => ?_⟩
      have dL5 := dL4.trans dE
      have G5 := G.same (smL dL5) dL5.wf
      have st5 := dL5.st
      clear G4
      refine ⟨line_of (show 2 ≤ 16777216 by decide), fun t nt => ?_⟩
      have sT := same_new (o := .lst [.int rL1, .int (1 - rL1)]) nt
      have wT := G5.wf.new (o := .lst [.int rL1, .int (1 - rL1)]) trivial nt
      have et : (upd HL5 t (.lst [.int rL1, .int (1 - rL1)])) t = some (.lst [.int rL1, .int (1 - rL1)]) := upd_same
      have cta : a ≠ t := by
        obtain ⟨_, _, e, _⟩ := st5
        exact ne_of_none e nt
      have GT := G5.same sT wT
      have stT : St2 (upd HL5 t (.lst [.int rL1, .int (1 - rL1)])) a := by
        obtain ⟨p, q, e, h⟩ := st5
        exact ⟨p, q, sT _ _ e, h⟩
      generalize upd HL5 t (.lst [.int rL1, .int (1 - rL1)]) = HT at sT wT et GT stT ⊢
      refine .inl ⟨t, _, rfl, .inl (.inl et), fun u nu => ?_⟩
      have hus : ∀ v ∈ cutV [V.int rL1, .int (1 - rL1)] none (some (1 + (if decide (V.int rL3 = V.int 0) = true then 1 else 0))), v = .int 0 ∨ v = .int 1 := fun v hv => by
        have := List.mem_of_mem_drop (List.mem_of_mem_take hv)
        simp only [List.mem_cons, List.not_mem_nil, or_false] at this
        rcases this with rfl | rfl
        · have : rL1 = 0 ∨ rL1 = 1 := by omega
          rcases this with e | e <;> rw [e] <;> simp
        · have : rL1 = 0 ∨ rL1 = 1 := by omega
          rcases this with e | e <;> rw [e] <;> simp
      have lus := cutV_length [V.int rL1, .int (1 - rL1)] none (some (1 + (if decide (V.int rL3 = V.int 0) = true then 1 else 0)))
      generalize hcu : cutV [V.int rL1, .int (1 - rL1)] none (some (1 + (if decide (V.int rL3 = V.int 0) = true then 1 else 0))) = us at hus lus ⊢
      have ctu : a ≠ u := by
        obtain ⟨_, _, e, _⟩ := stT
        exact ne_of_none e nu
      have sU := same_new (o := .lst us) nu
      have wU := GT.wf.new (o := .lst us) trivial nu
      have eu : (upd HT u (.lst us)) u = some (.lst us) := upd_same
      have GU := GT.same sU wU
      have stU : St2 (upd HT u (.lst us)) a := by
        obtain ⟨p, q, e, h⟩ := stT
        exact ⟨p, q, sU _ _ e, h⟩
      generalize upd HT u (.lst us) = HU at sU wU eu GU stU ⊢
      have lus2 : us.length ≤ 2 := lus
      refine ⟨u, rfl, ⟨_, .inl (.inl eu)⟩, for_it (walk_list (K := K) (a := u) (xs := us)) (fun j σ H' => ∃ (ea' eb' : List (Int × Int)) (y14 : Option V), σ = [some (.ref a0), some (.ref a), some (.ref N), some (.ref P), some (.ref L), some (.int base'), some (.ref hh), some (.ref ww), some (.int (1 + i)), some (.int rL1), some (.bl (decide (V.int rL2 = V.int 0))), some (.bl (decide (V.int rL3 = V.int 0))), some (.int lo), some (.int en), y14, y15, y16, y17] ∧ Big c.Hand H H' N P L hh ww LS A1 B1 ea' eb' ∧ St2 H' a ∧ H' u = some (.lst us) ∧ ea'.length ≤ 2 * i + j ∧ eb'.length ≤ 2 * i + j) ⟨ea, eb, _, rfl, GU, stU, eu, by omega, by omega⟩ (fun j σ H' _ h => by obtain ⟨_, _, _, _, _, _, h, _⟩ := h; exact .inl (.inl h)) (fun j xx σ H6 H6' hj h hy => ?_) (fun σ HX h => ?_)⟩
      · obtain ⟨ea', eb', y14, rfl, G6, st6, eu6, lea', leb'⟩ := h
        obtain ⟨rfl, hx6⟩ := hy
        have hj2 : j < 2 := by omega
        have stp : ∀ {A : Sid} {es fs : List (Int × Int)}, Sd c.Hand H6' A es → St2 (put2 H6' A fs) a := fun {A es fs} S => by
          obtain ⟨p, q, e, h⟩ := st6
          exact ⟨p, q, put2_lst S e, h⟩
        rcases hus xx (List.mem_of_getElem? hx6) with rfl | rfl
        · obtain ⟨dx', hxA⟩ := G6.sa.hx
          refine ⟨_, .ref A1.x, .inl (.inl (.inl G6.ch)), rfl, ?_⟩
          refine ⟨_, .ref A1.o, .inl (.inl (.inl G6.cw)), rfl, ?_⟩
          refine ⟨A1.x, dx', A1.dk, A1.o, A1.e, A1.nm, A1.ap, ea', decide (V.int rL2 = V.int 0), lo, en, rfl, rfl, rfl, rfl, rfl, lo0, f0, hxA, G6.sa.hk, G6.sa.ho, G6.d1, by omega, G6.wf, fun _ => ?_, fun _ _ => ?_, fun _ _ => ?_⟩
          · have pk := put_keys G6.sa.ue lo (if en < getI ea' lo then getI ea' lo else en)
            have G7 := G6.setA (fs := heard ea' lo en) pk.1
            have lf : (heard ea' lo en).length ≤ ea'.length + 1 := pk.2
            exact ⟨heard ea' lo en, eb', _, rfl, G7, stp G6.sa, put2_lst G6.sa eu6, by omega, by omega⟩
          · exact ⟨ea', eb', _, rfl, G6, st6, eu6, by omega, by omega⟩
          · have pk := drop_keys G6.sa.ue lo
            have G7 := G6.setA (fs := dropI ea' lo) pk.1
            exact ⟨dropI ea' lo, eb', _, rfl, G7, stp G6.sa, put2_lst G6.sa eu6, by omega, by omega⟩
        · obtain ⟨dx', hxB⟩ := G6.sb.hx
          refine ⟨_, .ref B1.x, .inl (.inl (.inl G6.ch)), rfl, ?_⟩
          refine ⟨_, .ref B1.o, .inl (.inl (.inl G6.cw)), rfl, ?_⟩
          refine ⟨B1.x, dx', B1.dk, B1.o, B1.e, B1.nm, B1.ap, eb', decide (V.int rL2 = V.int 0), lo, en, rfl, rfl, rfl, rfl, rfl, lo0, f0, hxB, G6.sb.hk, G6.sb.ho, G6.d2, by omega, G6.wf, fun _ => ?_, fun _ _ => ?_, fun _ _ => ?_⟩
          · have pk := put_keys G6.sb.ue lo (if en < getI eb' lo then getI eb' lo else en)
            have G7 := G6.setB (fs := heard eb' lo en) pk.1
            have lf : (heard eb' lo en).length ≤ eb'.length + 1 := pk.2
            exact ⟨ea', heard eb' lo en, _, rfl, G7, stp G6.sb, put2_lst G6.sb eu6, by omega, by omega⟩
          · exact ⟨ea', eb', _, rfl, G6, st6, eu6, by omega, by omega⟩
          · have pk := drop_keys G6.sb.ue lo
            have G7 := G6.setB (fs := dropI eb' lo) pk.1
            exact ⟨ea', dropI eb' lo, _, rfl, G7, stp G6.sb, put2_lst G6.sb eu6, by omega, by omega⟩
      obtain ⟨ea', eb', y14, rfl, G6, st6, eu6, lea', leb'⟩ := h
      have lus3 : us.length ≤ 2 := lus2
      refine ⟨_, .int A1.ap, .inl (.inl (.inl G6.cp)), rfl, ?_⟩
      refine ⟨_, .int B1.ap, .inl (.inl (.inl G6.cp)), rfl, ?_⟩
      refine ⟨⟨by decide, by decide, by decide⟩, ?_⟩
      have dX := Dr.refl st6 G6.wf
      refine ⟨a, _, rfl, rfl, dX.st, bas_lt (by decide) (by decide), dX.wf, fun rY pY qY gY lY nY => ?_⟩
      have dY := dX.drawn (q := qY) nY
      generalize upd HX a (stL pY qY) = HY at dY  ⊢
      obtain ⟨u1, u2, hsa, _⟩ := id st6
      have GY := G6.keep hsa dY.kp zN zP zL zh zw fa dY.wf
      refine ⟨line_of (show 5 ≤ 16777216 by decide), fun cq ncq => ?_⟩
      have sZ := same_new (o := .lst [.int base', .int en, .int (if en - A1.ap > 0 then en - A1.ap else 0), .int (en + B1.ap), .int rY]) ncq
      have wZ := GY.wf.new (o := .lst [.int base', .int en, .int (if en - A1.ap > 0 then en - A1.ap else 0), .int (en + B1.ap), .int rY]) trivial ncq
      have ecq : (upd HY cq (.lst [.int base', .int en, .int (if en - A1.ap > 0 then en - A1.ap else 0), .int (en + B1.ap), .int rY])) cq = some (.lst ([base', en, if en - A1.ap > 0 then en - A1.ap else 0, en + B1.ap, rY].map V.int)) := upd_same
      have GZ := GY.same sZ wZ
      have hcs : ∀ m ∈ [base', en, if en - A1.ap > 0 then en - A1.ap else 0, en + B1.ap, rY], (0 : Int) ≤ m := fun m hm => by
        simp only [List.mem_cons, List.not_mem_nil, or_false] at hm
        rcases hm with rfl | rfl | rfl | rfl | rfl
        · omega
        · omega
        · split <;> omega
        · omega
        · omega
      generalize upd HY cq (.lst [.int base', .int en, .int (if en - A1.ap > 0 then en - A1.ap else 0), .int (en + B1.ap), .int rY]) = HZ at sZ wZ ecq GZ ⊢
      generalize [base', en, if en - A1.ap > 0 then en - A1.ap else 0, en + B1.ap, rY] = clks at ecq hcs
      clear dX dY sZ GY
      refine ⟨cq, rfl, ⟨_, .inl (.inl ecq)⟩, for_it (walk_list (K := K) (a := cq) (xs := clks.map V.int)) (fun j σ H' => ∃ (y14 y15 y16 : Option V), σ = [some (.ref a0), some (.ref a), some (.ref N), some (.ref P), some (.ref L), some (.int base'), some (.ref hh), some (.ref ww), some (.int (1 + i)), some (.int rL1), some (.bl (decide (V.int rL2 = V.int 0))), some (.bl (decide (V.int rL3 = V.int 0))), some (.int lo), some (.int en), y14, y15, y16, y17] ∧ Same HZ H' ∧ Wf H') ⟨_, _, _, rfl, Same.refl _, wZ⟩ (fun j σ H' _ h => by obtain ⟨_, _, _, _, h, _⟩ := h; exact .inl (.inl (h _ _ ecq))) (fun j xx σ H7 H7' hj h hy => ?_) (fun σ H7 h => ?_)⟩
      · obtain ⟨y14, y15, y16, rfl, sm7, w7⟩ := h
        obtain ⟨rfl, hx7⟩ := hy
        obtain ⟨cl, hcl, rfl⟩ := int_nth hx7
        have cl0 := hcs cl (List.mem_of_getElem? hcl)
        refine ⟨line_of (show 3 ≤ 16777216 by decide), fun t3 nt3 => ?_⟩
        have s8 := same_new (o := .lst [.int 0, .int 1, .int 0]) nt3
        have w8 := w7.new (o := .lst [.int 0, .int 1, .int 0]) trivial nt3
        have et3 : (upd H7' t3 (.lst [.int 0, .int 1, .int 0])) t3 = some (.lst (([0, 1, 0] : List Int).map V.int)) := upd_same
        generalize upd H7' t3 (.lst [.int 0, .int 1, .int 0]) = H8 at s8 w8 et3 ⊢
        have sm8 := sm7.trans s8
        refine ⟨t3, rfl, ⟨_, .inl (.inl et3)⟩, for_it (walk_list (K := K) (a := t3) (xs := ([0, 1, 0] : List Int).map V.int)) (fun j σ H' => ∃ (y14 y16 : Option V), σ = [some (.ref a0), some (.ref a), some (.ref N), some (.ref P), some (.ref L), some (.int base'), some (.ref hh), some (.ref ww), some (.int (1 + i)), some (.int rL1), some (.bl (decide (V.int rL2 = V.int 0))), some (.bl (decide (V.int rL3 = V.int 0))), some (.int lo), some (.int en), y14, some (.int cl), y16, y17] ∧ Same H8 H' ∧ Wf H') ⟨_, _, rfl, Same.refl _, w8⟩ (fun j σ H' _ h => by obtain ⟨_, _, _, h, _⟩ := h; exact .inl (.inl (h _ _ et3))) (fun j2 xx2 σ H9 H9' hj2 h hy => ?_) (fun σ H9 h => ?_)⟩
        · obtain ⟨y14, y16, rfl, sm9, w9⟩ := h
          obtain ⟨rfl, hx9⟩ := hy
          obtain ⟨one, hone, rfl⟩ := int_nth hx9
          have one2 : one = 0 ∨ one = 1 := by
            have := List.mem_of_getElem? hone
            simp only [List.mem_cons, List.not_mem_nil, or_false] at this
            omega
          have sm89 := sm8.trans sm9
          have G9 := GZ.same sm89 w9
          obtain ⟨T1, et1, hS1, hx1, ho1, hle1⟩ : ∃ (T1 : Sid) (et1 : List (Int × Int)), (∀ H', Same HZ H' → Sd c.Hand H' T1 et1) ∧ atI [V.ref A1.x, .ref B1.x] one = some (.ref T1.x) ∧ atI [V.ref A1.o, .ref B1.o] one = some (.ref T1.o) ∧ et1.length ≤ 60 := by
            rcases one2 with rfl | rfl
            · exact ⟨A1, ea', fun H' s => GZ.sa.keep fun b o _ e => s b o e, rfl, rfl, by omega⟩
            · exact ⟨B1, eb', fun H' s => GZ.sb.keep fun b o _ e => s b o e, rfl, rfl, by omega⟩
          refine ⟨L, rfl, ⟨_, .inl (.inl G9.cl)⟩, for_it (walk_list (K := K) (a := L) (xs := LS.map V.int)) (fun j σ H' => ∃ (y16 : Option V), σ = [some (.ref a0), some (.ref a), some (.ref N), some (.ref P), some (.ref L), some (.int base'), some (.ref hh), some (.ref ww), some (.int (1 + i)), some (.int rL1), some (.bl (decide (V.int rL2 = V.int 0))), some (.bl (decide (V.int rL3 = V.int 0))), some (.int lo), some (.int en), some (.int one), some (.int cl), y16, y17] ∧ Same H9' H' ∧ Wf H') ⟨_, rfl, Same.refl _, w9⟩ (fun j σ H' _ h => by obtain ⟨_, _, h, _⟩ := h; exact .inl (.inl (h _ _ G9.cl))) (fun j3 xx3 σ HA3 HA3' hj3 h hy => ?_) (fun σ HA3 h => ?_)⟩
          · obtain ⟨y16, rfl, smA3, wA3⟩ := h
            obtain ⟨rfl, hxA⟩ := hy
            obtain ⟨num, hnum, rfl⟩ := int_nth hxA
            have num0 := hall num (List.mem_of_getElem? hnum)
            have smZA := sm89.trans smA3
            refine ⟨_, .ref T1.x, .inl (.inl (.inl (smA3 _ _ G9.ch))), hx1, ?_⟩
            have S1 := hS1 _ smZA
            refine ⟨T1.x, T1.nm, T1.ap, et1, num, cl, rfl, rfl, rfl, num0, cl0, S1.hand, wA3, fun q1 HB3 eq1 smB3 wB3 => ?_⟩
            refine ⟨_, .ref T1.o, .inl (.inl (.inl (smB3 _ _ (smA3 _ _ G9.cw)))), ho1, ?_⟩
            have S2 := hS1 _ (smZA.trans smB3)
            refine ⟨T1.o, T1.e, T1.ap, et1, num, cl, rfl, rfl, rfl, S2.ho, wB3, fun q2 HC3 eq2 smC3 wC3 => ?_⟩
            refine ⟨_, _, toldP_dp (smC3 _ _ eq1), toldP_dp eq2, toldP_sh _ _ _ _, toldP_sh _ _ _ _, ?_⟩
            rw [SeqAt.eqv_refl _ (SeqAt.canLay_of_shaped (toldP_sh _ _ _ _))]
            exact ⟨_, rfl, (smA3.trans smB3).trans smC3, wC3⟩
          obtain ⟨y16, rfl, smA3, wA3⟩ := h
          have smZA := sm89.trans smA3
          have S1 := hS1 _ smZA
          refine ⟨_, .ref T1.x, .inl (.inl (.inl (smA3 _ _ G9.ch))), hx1, ?_⟩
          refine ⟨_, .ref T1.o, .inl (.inl (.inl (smA3 _ _ G9.cw))), ho1, ?_⟩
          refine ⟨T1.x, T1.o, T1.e, T1.nm, T1.ap, et1, cl, rfl, rfl, rfl, cl0, S1.hand, S1.ho, S1.ue, hle1, wA3, fun HB3 smB3 wB3 => ?_⟩
          exact ⟨_, _, rfl, (sm9.trans smA3).trans smB3, wB3⟩
        obtain ⟨y14, y16, rfl, sm9, w9⟩ := h
        exact ⟨_, _, _, rfl, sm8.trans sm9, w9⟩
      obtain ⟨y14, y15, y16, rfl, sm7, w7⟩ := h
      exact ⟨ea', eb', _, _, _, _, _, _, _, _, _, _, _, rfl, GZ.same sm7 w7, by omega, by omega⟩
    · obtain ⟨ea, eb, v1, y8, y9, y10, y11, y12, y13, y14, y15, y16, y17, rfl, G, lea, leb⟩ := hp
      refine ⟨hh, rfl, ⟨_, .inl (.inl G.ch)⟩, fun D nD => ?_⟩
      refine lc_it (walk_list (K := K) (a := hh) (xs := [.ref A1.x, .ref B1.x])) (fun i H' => ∃ vs : List V, H' D = some (.lst vs) ∧ Al2 (NmAt H') vs ([A1, B1].take i) ∧ Same HM H' ∧ Wf H') ⟨[], upd_same, .nil, same_new nD, G.wf.new trivial nD⟩ (fun i H' _ h => by obtain ⟨_, _, _, h, _⟩ := h; exact .inl (.inl (h _ _ G.ch))) (fun i v H2 H2' hi hp hy => ?_) (fun H' hp => ?_)
      · obtain ⟨vs, eD, hal, sm2, w2⟩ := hp
        obtain ⟨rfl, hx2⟩ := hy
        refine ⟨rfl, ?_⟩
        obtain ⟨A, hA, hAx, dxA, hxA⟩ : ∃ A : Sid, [A1, B1][i]? = some A ∧ v = .ref A.x ∧ ∃ dx, H2' A.x = some (.ins c.Hand dx (fsH A.nm A.ap A.dk)) := by
          have hi' : i = 0 ∨ i = 1 := by
            have : i < 2 := hi
            omega
          rcases hi' with rfl | rfl
          · obtain ⟨dx, h⟩ := G.sa.hx
            exact ⟨A1, rfl, (Option.some.inj hx2).symm, dx, sm2 _ _ h⟩
          · obtain ⟨dx, h⟩ := G.sb.hx
            exact ⟨B1, rfl, (Option.some.inj hx2).symm, dx, sm2 _ _ h⟩
        subst hAx
        refine ⟨A.x, c.Hand, dxA, _, _, rfl, hxA, T.o_Hand.cl, T.n_Hand_name, rfl, ?_⟩
        refine ⟨A.x, c.Hand, dxA, _, _, rfl, hxA, T.o_Hand.cl, T.n_Hand_apart, rfl, ?_⟩
        refine ⟨line_of (show 2 ≤ 16777216 by decide), fun q nq => ?_⟩
        have smQ := same_new (o := .tup [.str A.nm, .int A.ap]) nq
        have w3 := w2.new (o := .tup [.str A.nm, .int A.ap]) trivial nq
        have eq : (upd H2' q (.tup [.str A.nm, .int A.ap])) q = some (.tup [.str A.nm, .int A.ap]) := upd_same
        replace eD := smQ _ _ eD
        have hal3 := hal.mono (P' := NmAt (upd H2' q (.tup [.str A.nm, .int A.ap]))) fun v p h => h.same smQ
        generalize upd H2' q (.tup [.str A.nm, .int A.ap]) = H3 at smQ w3 eq eD hal3 ⊢
        have lv : vs.length ≤ 2 := by
          rw [hal.len, List.length_take]
          show min i 2 ≤ 2
          omega
        refine ⟨vs, eD, line_lt (by omega), vs ++ [V.ref q], upd_same, ?_, fun b o eb => ?_, w3.at trivial eD fun _ z => by cases z⟩
        · rw [take_snoc hA]
          have f : ∀ (v : V) (p : Sid), NmAt H3 v p → NmAt (upd H3 D (.lst (vs ++ [V.ref q]))) v p := fun v p ⟨t', e1, e2⟩ => ⟨t', e1, by rw [upd_ne (ne_of e2 eD fun z => by cases z)]; exact e2⟩
          exact (hal3.mono f).snoc (f _ _ ⟨q, rfl, eq⟩)
        · rw [upd_ne (ne_of_none eb nD)]
          exact smQ _ _ (sm2 b o eb)
      obtain ⟨vs, eD, hal, sm2, w2⟩ := hp
      refine ⟨N, P, [(.inr A1.nm, .int A1.ap), (.inr B1.nm, .int B1.ap)], rfl, .inl (.inl (sm2 _ _ G.cn)), .inl (.inl (sm2 _ _ G.cp)), Nat.le_of_ble_eq_true rfl, fun H3 q ts kp nq nts nqts eq pr => ?_⟩
      have hal3 : Al2 (NmAt H3) vs [A1, B1] := hal.mono fun v p ⟨t', e1, e2⟩ => ⟨t', e1, kp _ _ e2⟩
      have sh : SeqAt.shaped (.list [.tuple [.str A1.nm, .int A1.ap], .tuple [.str B1.nm, .int B1.ap]]) = true := by
        unfold SeqAt.shaped
        show ((PyData.strOk A1.nm && (true && true)) && ((PyData.strOk B1.nm && (true && true)) && true) && decide (max (max 0 (max 0 0) + 1) (max (max 0 (max 0 0) + 1) 0) + 1 ≤ 64)) = true
        rw [snA.2, snB1.2]
        rfl
      cases hal3 with
      | cons v1 r1 =>
      cases r1 with
      | cons v2 r2 =>
      cases r2
      obtain ⟨t1, rfl, ht1⟩ := v1
      obtain ⟨t2, rfl, ht2⟩ := v2
      cases pr with
      | cons w1 r1 =>
      cases r1 with
      | cons w2 r2 =>
      cases r2
      refine ⟨.list [.tuple [.str A1.nm, .int A1.ap], .tuple [.str B1.nm, .int B1.ap]], .list [.tuple [.str A1.nm, .int A1.ap], .tuple [.str B1.nm, .int B1.ap]], .lst (.inl (.inl (kp _ _ eD))) (.cons (.tup (.inl (.inl ht1)) (.cons (.str _) (.cons (.int _) .nil))) (.cons (.tup (.inl (.inl ht2)) (.cons (.str _) (.cons (.int _) .nil))) .nil)), .lst (.inl (.inl eq)) (.cons (.tup (.inl (.inl w1)) (.cons (.str _) (.cons (.int _) .nil))) (.cons (.tup (.inl (.inl w2)) (.cons (.str _) (.cons (.int _) .nil))) .nil)), sh, sh, ?_⟩
      rw [SeqAt.eqv_refl _ (SeqAt.canLay_of_shaped sh)]
      exact k _
theorem all_mk {l : PySem.W.OpenLaw} {w : World} {K : PySem.W.Frag} {h : Heap} {mg : Str → Option Value} {fa : Addr} (X : K.In h) (G : h.Ns mainGlobals mg) (hfa : mg "law" = some (.ref fa))
    {f1 : Addr} {od1 an1 : Option Addr} {sl1 : Array (Option Value)} {oc1 kV1 dc1 pm1 cd1 ct1 : Value}
    (a1 : PySem.W.nsIn K mainGlobals "is_name" = some (some (.ref f1))) (l1 : K.lookup f1 = some ⟨oc1, od1, .func (PySem.W.fnOf "is_name" "is_name" (defArgs (topS 9)) (defBody (topS 9)) (defScope (topS 9)) .none kV1 dc1 pm1 an1 cd1 ct1), sl1⟩) (c1 : PySem.W.codeIn K cd1 "is_name" = true) (k1 : PySem.W.keepIn K (.ref f1) = true)
    {f2 : Addr} {od2 an2 : Option Addr} {sl2 : Array (Option Value)} {oc2 kV2 dc2 pm2 cd2 ct2 : Value}
    (a2 : PySem.W.nsIn K mainGlobals "is_whole" = some (some (.ref f2))) (l2 : K.lookup f2 = some ⟨oc2, od2, .func (PySem.W.fnOf "is_whole" "is_whole" (defArgs (topS 10)) (defBody (topS 10)) (defScope (topS 10)) .none kV2 dc2 pm2 an2 cd2 ct2), sl2⟩) (c2 : PySem.W.codeIn K cd2 "is_whole" = true) (k2 : PySem.W.keepIn K (.ref f2) = true)
    {f3 : Addr} {od3 an3 : Option Addr} {sl3 : Array (Option Value)} {oc3 kV3 dc3 pm3 cd3 ct3 : Value}
    (a3 : PySem.W.nsIn K mainGlobals "is_count" = some (some (.ref f3))) (l3 : K.lookup f3 = some ⟨oc3, od3, .func (PySem.W.fnOf "is_count" "is_count" (defArgs (topS 11)) (defBody (topS 11)) (defScope (topS 11)) .none kV3 dc3 pm3 an3 cd3 ct3), sl3⟩) (c3 : PySem.W.codeIn K cd3 "is_count" = true) (k3 : PySem.W.keepIn K (.ref f3) = true)
    {f4 : Addr} {od4 an4 : Option Addr} {sl4 : Array (Option Value)} {oc4 kV4 dc4 pm4 cd4 ct4 : Value}
    (a4 : PySem.W.nsIn K mainGlobals "sure_clock" = some (some (.ref f4))) (l4 : K.lookup f4 = some ⟨oc4, od4, .func (PySem.W.fnOf "sure_clock" "sure_clock" (defArgs (topS 14)) (defBody (topS 14)) (defScope (topS 14)) .none kV4 dc4 pm4 an4 cd4 ct4), sl4⟩) (c4 : PySem.W.codeIn K cd4 "sure_clock" = true) (k4 : PySem.W.keepIn K (.ref f4) = true)
    {f5 : Addr} {od5 an5 : Option Addr} {sl5 : Array (Option Value)} {oc5 kV5 dc5 pm5 cd5 ct5 : Value}
    (a5 : PySem.W.nsIn K mainGlobals "_law_cell_at" = some (some (.ref f5))) (l5 : K.lookup f5 = some ⟨oc5, od5, .func (PySem.W.fnOf "_law_cell_at" "_law_cell_at" (defArgs (topS 17)) (defBody (topS 17)) (defScope (topS 17)) .none kV5 dc5 pm5 an5 cd5 ct5), sl5⟩) (c5 : PySem.W.codeIn K cd5 "_law_cell_at" = true) (k5 : PySem.W.keepIn K (.ref f5) = true)
    {f6 : Addr} {od6 an6 : Option Addr} {sl6 : Array (Option Value)} {oc6 kV6 dc6 pm6 cd6 ct6 : Value}
    (a6 : PySem.W.nsIn K mainGlobals "_law_state" = some (some (.ref f6))) (l6 : K.lookup f6 = some ⟨oc6, od6, .func (PySem.W.fnOf "_law_state" "_law_state" (defArgs (topS 18)) (defBody (topS 18)) (defScope (topS 18)) .none kV6 dc6 pm6 an6 cd6 ct6), sl6⟩) (c6 : PySem.W.codeIn K cd6 "_law_state" = true) (k6 : PySem.W.keepIn K (.ref f6) = true)
    {f7 : Addr} {od7 an7 : Option Addr} {sl7 : Array (Option Value)} {oc7 kV7 dc7 pm7 cd7 ct7 : Value}
    (a7 : PySem.W.nsIn K mainGlobals "_law_mixed" = some (some (.ref f7))) (l7 : K.lookup f7 = some ⟨oc7, od7, .func (PySem.W.fnOf "_law_mixed" "_law_mixed" (defArgs (topS 19)) (defBody (topS 19)) (defScope (topS 19)) .none kV7 dc7 pm7 an7 cd7 ct7), sl7⟩) (c7 : PySem.W.codeIn K cd7 "_law_mixed" = true) (k7 : PySem.W.keepIn K (.ref f7) = true)
    {f8 : Addr} {od8 an8 : Option Addr} {sl8 : Array (Option Value)} {oc8 kV8 dc8 pm8 cd8 ct8 : Value}
    (a8 : PySem.W.nsIn K mainGlobals "_law_digit" = some (some (.ref f8))) (l8 : K.lookup f8 = some ⟨oc8, od8, .func (PySem.W.fnOf "_law_digit" "_law_digit" (defArgs (topS 20)) (defBody (topS 20)) (defScope (topS 20)) .none kV8 dc8 pm8 an8 cd8 ct8), sl8⟩) (c8 : PySem.W.codeIn K cd8 "_law_digit" = true) (k8 : PySem.W.keepIn K (.ref f8) = true)
    {f9 : Addr} {od9 an9 : Option Addr} {sl9 : Array (Option Value)} {oc9 kV9 dc9 pm9 cd9 ct9 : Value}
    (a9 : PySem.W.nsIn K mainGlobals "_law_name" = some (some (.ref f9))) (l9 : K.lookup f9 = some ⟨oc9, od9, .func (PySem.W.fnOf "_law_name" "_law_name" (defArgs (topS 21)) (defBody (topS 21)) (defScope (topS 21)) .none kV9 dc9 pm9 an9 cd9 ct9), sl9⟩) (c9 : PySem.W.codeIn K cd9 "_law_name" = true) (k9 : PySem.W.keepIn K (.ref f9) = true)
    {f10 : Addr} {od10 an10 : Option Addr} {sl10 : Array (Option Value)} {oc10 kV10 dc10 pm10 cd10 ct10 : Value}
    (a10 : PySem.W.nsIn K mainGlobals "_law_apart" = some (some (.ref f10))) (l10 : K.lookup f10 = some ⟨oc10, od10, .func (PySem.W.fnOf "_law_apart" "_law_apart" (defArgs (topS 22)) (defBody (topS 22)) (defScope (topS 22)) .none kV10 dc10 pm10 an10 cd10 ct10), sl10⟩) (c10 : PySem.W.codeIn K cd10 "_law_apart" = true) (k10 : PySem.W.keepIn K (.ref f10) = true)
    {f11 : Addr} {od11 an11 : Option Addr} {sl11 : Array (Option Value)} {oc11 kV11 dc11 pm11 cd11 ct11 : Value}
    (a11 : PySem.W.nsIn K mainGlobals "_law_end" = some (some (.ref f11))) (l11 : K.lookup f11 = some ⟨oc11, od11, .func (PySem.W.fnOf "_law_end" "_law_end" (defArgs (topS 23)) (defBody (topS 23)) (defScope (topS 23)) .none kV11 dc11 pm11 an11 cd11 ct11), sl11⟩) (c11 : PySem.W.codeIn K cd11 "_law_end" = true) (k11 : PySem.W.keepIn K (.ref f11) = true)
    {f12 : Addr} {od12 an12 : Option Addr} {sl12 : Array (Option Value)} {oc12 kV12 dc12 pm12 cd12 ct12 : Value}
    (a12 : PySem.W.nsIn K mainGlobals "_law_loans" = some (some (.ref f12))) (l12 : K.lookup f12 = some ⟨oc12, od12, .func (PySem.W.fnOf "_law_loans" "_law_loans" (defArgs (topS 24)) (defBody (topS 24)) (defScope (topS 24)) .none kV12 dc12 pm12 an12 cd12 ct12), sl12⟩) (c12 : PySem.W.codeIn K cd12 "_law_loans" = true) (k12 : PySem.W.keepIn K (.ref f12) = true)
    {f13 : Addr} {od13 an13 : Option Addr} {sl13 : Array (Option Value)} {oc13 kV13 dc13 pm13 cd13 ct13 : Value}
    (a13 : PySem.W.nsIn K mainGlobals "_law_told" = some (some (.ref f13))) (l13 : K.lookup f13 = some ⟨oc13, od13, .func (PySem.W.fnOf "_law_told" "_law_told" (defArgs (topS 25)) (defBody (topS 25)) (defScope (topS 25)) .none kV13 dc13 pm13 an13 cd13 ct13), sl13⟩) (c13 : PySem.W.codeIn K cd13 "_law_told" = true) (k13 : PySem.W.keepIn K (.ref f13) = true)
    {f14 : Addr} {od14 an14 : Option Addr} {sl14 : Array (Option Value)} {oc14 kV14 dc14 pm14 cd14 ct14 : Value}
    (a14 : PySem.W.nsIn K mainGlobals "_law_due" = some (some (.ref f14))) (l14 : K.lookup f14 = some ⟨oc14, od14, .func (PySem.W.fnOf "_law_due" "_law_due" (defArgs (topS 26)) (defBody (topS 26)) (defScope (topS 26)) .none kV14 dc14 pm14 an14 cd14 ct14), sl14⟩) (c14 : PySem.W.codeIn K cd14 "_law_due" = true) (k14 : PySem.W.keepIn K (.ref f14) = true)
    {f15 : Addr} {od15 an15 : Option Addr} {sl15 : Array (Option Value)} {oc15 kV15 dc15 pm15 cd15 ct15 : Value}
    (a15 : PySem.W.nsIn K mainGlobals "_law_lists_right" = some (some (.ref f15))) (l15 : K.lookup f15 = some ⟨oc15, od15, .func (PySem.W.fnOf "_law_lists_right" "_law_lists_right" (defArgs (topS 27)) (defBody (topS 27)) (defScope (topS 27)) .none kV15 dc15 pm15 an15 cd15 ct15), sl15⟩) (c15 : PySem.W.codeIn K cd15 "_law_lists_right" = true) (k15 : PySem.W.keepIn K (.ref f15) = true)
    {f16 : Addr} {od16 an16 : Option Addr} {sl16 : Array (Option Value)} {oc16 kV16 dc16 pm16 cd16 ct16 : Value}
    (a16 : PySem.W.nsIn K mainGlobals "_law_step" = some (some (.ref f16))) (l16 : K.lookup f16 = some ⟨oc16, od16, .func (PySem.W.fnOf "_law_step" "_law_step" (defArgs (topS 28)) (defBody (topS 28)) (defScope (topS 28)) .none kV16 dc16 pm16 an16 cd16 ct16), sl16⟩) (c16 : PySem.W.codeIn K cd16 "_law_step" = true) (k16 : PySem.W.keepIn K (.ref f16) = true)
    {f17 : Addr} {od17 an17 : Option Addr} {sl17 : Array (Option Value)} {oc17 kV17 dc17 pm17 cd17 ct17 : Value}
    (a17 : PySem.W.nsIn K mainGlobals "law" = some (some (.ref f17))) (l17 : K.lookup f17 = some ⟨oc17, od17, .func (PySem.W.fnOf "law" "law" (defArgs (topS 29)) (defBody (topS 29)) (defScope (topS 29)) .none kV17 dc17 pm17 an17 cd17 ct17), sl17⟩) (c17 : PySem.W.codeIn K cd17 "law" = true) (k17 : PySem.W.keepIn K (.ref f17) = true)
    (hn0 : PySem.W.specialIn K (.builtin "object.__class__") "__get__" = some (some (.builtin "getset_descriptor.__get__")))
    (ht0 : PySem.W.takesIn K (.builtin "object.__class__") = some true)
    {C_LentError : Addr}
    (aC_LentError : PySem.W.nsIn K mainGlobals "LentError" = some (some (.ref C_LentError)))
    (ha_LentError : PySem.W.findIn K (.ref C_LentError) "__class__" = some (some (.builtin "object.__class__")))
    (hm_LentError : PySem.W.mroIn K C_LentError (.type "object") = some true)
    (hd_LentError : PySem.W.hasDictIn K C_LentError = true)
    (kc_LentError : PySem.W.keepIn K (.ref C_LentError) = true)
    (xx_LentError : PySem.W.excIn K C_LentError R.veB "ValueError.__new__" = true)
    (xb_LentError : PySem.W.subIn K (.ref C_LentError) (.type "BaseException") = some true)
    (xt_LentError : PySem.W.typeIn K (.ref C_LentError) = some (.type "type"))
    (xv_LentError : PySem.W.subIn K (.ref C_LentError) (.type "ValueError") = some true)
    (xg_LentError : PySem.W.findIn K (.ref C_LentError) "__getattribute__" = some (some (.builtin "BaseException.__getattribute__")))
    (xh_LentError : PySem.W.findIn K (.ref C_LentError) "__getattr__" = some none)
    {C_NoMoment : Addr}
    (aC_NoMoment : PySem.W.nsIn K mainGlobals "NoMoment" = some (some (.ref C_NoMoment)))
    (ha_NoMoment : PySem.W.findIn K (.ref C_NoMoment) "__class__" = some (some (.builtin "object.__class__")))
    (hm_NoMoment : PySem.W.mroIn K C_NoMoment (.type "object") = some true)
    (hd_NoMoment : PySem.W.hasDictIn K C_NoMoment = true)
    (kc_NoMoment : PySem.W.keepIn K (.ref C_NoMoment) = true)
    (xx_NoMoment : PySem.W.excIn K C_NoMoment R.veB "ValueError.__new__" = true)
    (xb_NoMoment : PySem.W.subIn K (.ref C_NoMoment) (.type "BaseException") = some true)
    (xt_NoMoment : PySem.W.typeIn K (.ref C_NoMoment) = some (.type "type"))
    (xv_NoMoment : PySem.W.subIn K (.ref C_NoMoment) (.type "ValueError") = some true)
    (xg_NoMoment : PySem.W.findIn K (.ref C_NoMoment) "__getattribute__" = some (some (.builtin "BaseException.__getattribute__")))
    (xh_NoMoment : PySem.W.findIn K (.ref C_NoMoment) "__getattr__" = some none)
    {C_NoHand : Addr}
    (aC_NoHand : PySem.W.nsIn K mainGlobals "NoHand" = some (some (.ref C_NoHand)))
    (ha_NoHand : PySem.W.findIn K (.ref C_NoHand) "__class__" = some (some (.builtin "object.__class__")))
    (hm_NoHand : PySem.W.mroIn K C_NoHand (.type "object") = some true)
    (hd_NoHand : PySem.W.hasDictIn K C_NoHand = true)
    (kc_NoHand : PySem.W.keepIn K (.ref C_NoHand) = true)
    (xx_NoHand : PySem.W.excIn K C_NoHand R.veB "ValueError.__new__" = true)
    (xb_NoHand : PySem.W.subIn K (.ref C_NoHand) (.type "BaseException") = some true)
    (xt_NoHand : PySem.W.typeIn K (.ref C_NoHand) = some (.type "type"))
    (xv_NoHand : PySem.W.subIn K (.ref C_NoHand) (.type "ValueError") = some true)
    (xg_NoHand : PySem.W.findIn K (.ref C_NoHand) "__getattribute__" = some (some (.builtin "BaseException.__getattribute__")))
    (xh_NoHand : PySem.W.findIn K (.ref C_NoHand) "__getattr__" = some none)
    {C_NoLoan : Addr}
    (aC_NoLoan : PySem.W.nsIn K mainGlobals "NoLoan" = some (some (.ref C_NoLoan)))
    (ha_NoLoan : PySem.W.findIn K (.ref C_NoLoan) "__class__" = some (some (.builtin "object.__class__")))
    (hm_NoLoan : PySem.W.mroIn K C_NoLoan (.type "object") = some true)
    (hd_NoLoan : PySem.W.hasDictIn K C_NoLoan = true)
    (kc_NoLoan : PySem.W.keepIn K (.ref C_NoLoan) = true)
    (xx_NoLoan : PySem.W.excIn K C_NoLoan R.veB "ValueError.__new__" = true)
    (xb_NoLoan : PySem.W.subIn K (.ref C_NoLoan) (.type "BaseException") = some true)
    (xt_NoLoan : PySem.W.typeIn K (.ref C_NoLoan) = some (.type "type"))
    (xv_NoLoan : PySem.W.subIn K (.ref C_NoLoan) (.type "ValueError") = some true)
    (xg_NoLoan : PySem.W.findIn K (.ref C_NoLoan) "__getattribute__" = some (some (.builtin "BaseException.__getattribute__")))
    (xh_NoLoan : PySem.W.findIn K (.ref C_NoLoan) "__getattr__" = some none)
    {C_NoApart : Addr}
    (aC_NoApart : PySem.W.nsIn K mainGlobals "NoApart" = some (some (.ref C_NoApart)))
    (ha_NoApart : PySem.W.findIn K (.ref C_NoApart) "__class__" = some (some (.builtin "object.__class__")))
    (hm_NoApart : PySem.W.mroIn K C_NoApart (.type "object") = some true)
    (hd_NoApart : PySem.W.hasDictIn K C_NoApart = true)
    (kc_NoApart : PySem.W.keepIn K (.ref C_NoApart) = true)
    (xx_NoApart : PySem.W.excIn K C_NoApart R.veB "ValueError.__new__" = true)
    (xb_NoApart : PySem.W.subIn K (.ref C_NoApart) (.type "BaseException") = some true)
    (xt_NoApart : PySem.W.typeIn K (.ref C_NoApart) = some (.type "type"))
    (xv_NoApart : PySem.W.subIn K (.ref C_NoApart) (.type "ValueError") = some true)
    (xg_NoApart : PySem.W.findIn K (.ref C_NoApart) "__getattribute__" = some (some (.builtin "BaseException.__getattribute__")))
    (xh_NoApart : PySem.W.findIn K (.ref C_NoApart) "__getattr__" = some none)
    {C_Hand : Addr}
    (aC_Hand : PySem.W.nsIn K mainGlobals "Hand" = some (some (.ref C_Hand)))
    (ha_Hand : PySem.W.findIn K (.ref C_Hand) "__class__" = some (some (.builtin "object.__class__")))
    (hm_Hand : PySem.W.mroIn K C_Hand (.type "object") = some true)
    (hd_Hand : PySem.W.hasDictIn K C_Hand = true)
    (kc_Hand : PySem.W.keepIn K (.ref C_Hand) = true)
    (pg_Hand : PySem.W.plainGet K C_Hand Str.empty = true)
    (po_Hand : PySem.W.plainOver K C_Hand = true)
    (sa_Hand : PySem.W.findIn K (.ref C_Hand) "__setattr__" = some (some (.builtin "object.__setattr__")))
    (mk_Hand : PySem.W.makesIn K C_Hand = true)
    {fIHand : Addr} {odIHand anIHand : Option Addr} {slIHand : Array (Option Value)} {ocIHand kVIHand dcIHand pmIHand cdIHand ctIHand : Value}
    (aIHand : PySem.W.findIn K (.ref C_Hand) "__init__" = some (some (.ref fIHand)))
    (iIHand : PySem.W.isFn K (.ref fIHand) = true)
    (lIHand : K.lookup fIHand = some ⟨ocIHand, odIHand, .func (PySem.W.fnOf "__init__" "Hand.__init__" (defArgs (inClass (topS 15) 0)) (defBody (inClass (topS 15) 0)) (defScope (inClass (topS 15) 0)) .none kVIHand dcIHand pmIHand anIHand cdIHand ctIHand), slIHand⟩)
    (cIHand : PySem.W.codeIn K cdIHand "Hand.__init__" = true)
    (kIHand : PySem.W.keepIn K (.ref fIHand) = true)
    {fMHand_hears : Addr} {odMHand_hears anMHand_hears : Option Addr} {slMHand_hears : Array (Option Value)} {ocMHand_hears kVMHand_hears dcMHand_hears pmMHand_hears cdMHand_hears ctMHand_hears : Value}
    (aMHand_hears : PySem.W.findIn K (.ref C_Hand) "hears" = some (some (.ref fMHand_hears)))
    (iMHand_hears : PySem.W.isFn K (.ref fMHand_hears) = true)
    (lMHand_hears : K.lookup fMHand_hears = some ⟨ocMHand_hears, odMHand_hears, .func (PySem.W.fnOf "hears" "Hand.hears" (defArgs (inClass (topS 15) 1)) (defBody (inClass (topS 15) 1)) (defScope (inClass (topS 15) 1)) .none kVMHand_hears dcMHand_hears pmMHand_hears anMHand_hears cdMHand_hears ctMHand_hears), slMHand_hears⟩)
    (cMHand_hears : PySem.W.codeIn K cdMHand_hears "Hand.hears" = true)
    (kMHand_hears : PySem.W.keepIn K (.ref fMHand_hears) = true)
    {fMHand_end_of : Addr} {odMHand_end_of anMHand_end_of : Option Addr} {slMHand_end_of : Array (Option Value)} {ocMHand_end_of kVMHand_end_of dcMHand_end_of pmMHand_end_of cdMHand_end_of ctMHand_end_of : Value}
    (aMHand_end_of : PySem.W.findIn K (.ref C_Hand) "end_of" = some (some (.ref fMHand_end_of)))
    (iMHand_end_of : PySem.W.isFn K (.ref fMHand_end_of) = true)
    (lMHand_end_of : K.lookup fMHand_end_of = some ⟨ocMHand_end_of, odMHand_end_of, .func (PySem.W.fnOf "end_of" "Hand.end_of" (defArgs (inClass (topS 15) 2)) (defBody (inClass (topS 15) 2)) (defScope (inClass (topS 15) 2)) .none kVMHand_end_of dcMHand_end_of pmMHand_end_of anMHand_end_of cdMHand_end_of ctMHand_end_of), slMHand_end_of⟩)
    (cMHand_end_of : PySem.W.codeIn K cdMHand_end_of "Hand.end_of" = true)
    (kMHand_end_of : PySem.W.keepIn K (.ref fMHand_end_of) = true)
    {fMHand_forgets : Addr} {odMHand_forgets anMHand_forgets : Option Addr} {slMHand_forgets : Array (Option Value)} {ocMHand_forgets kVMHand_forgets dcMHand_forgets pmMHand_forgets cdMHand_forgets ctMHand_forgets : Value}
    (aMHand_forgets : PySem.W.findIn K (.ref C_Hand) "forgets" = some (some (.ref fMHand_forgets)))
    (iMHand_forgets : PySem.W.isFn K (.ref fMHand_forgets) = true)
    (lMHand_forgets : K.lookup fMHand_forgets = some ⟨ocMHand_forgets, odMHand_forgets, .func (PySem.W.fnOf "forgets" "Hand.forgets" (defArgs (inClass (topS 15) 3)) (defBody (inClass (topS 15) 3)) (defScope (inClass (topS 15) 3)) .none kVMHand_forgets dcMHand_forgets pmMHand_forgets anMHand_forgets cdMHand_forgets ctMHand_forgets), slMHand_forgets⟩)
    (cMHand_forgets : PySem.W.codeIn K cdMHand_forgets "Hand.forgets" = true)
    (kMHand_forgets : PySem.W.keepIn K (.ref fMHand_forgets) = true)
    {fMHand_surely_out : Addr} {odMHand_surely_out anMHand_surely_out : Option Addr} {slMHand_surely_out : Array (Option Value)} {ocMHand_surely_out kVMHand_surely_out dcMHand_surely_out pmMHand_surely_out cdMHand_surely_out ctMHand_surely_out : Value}
    (aMHand_surely_out : PySem.W.findIn K (.ref C_Hand) "surely_out" = some (some (.ref fMHand_surely_out)))
    (iMHand_surely_out : PySem.W.isFn K (.ref fMHand_surely_out) = true)
    (lMHand_surely_out : K.lookup fMHand_surely_out = some ⟨ocMHand_surely_out, odMHand_surely_out, .func (PySem.W.fnOf "surely_out" "Hand.surely_out" (defArgs (inClass (topS 15) 4)) (defBody (inClass (topS 15) 4)) (defScope (inClass (topS 15) 4)) .none kVMHand_surely_out dcMHand_surely_out pmMHand_surely_out anMHand_surely_out cdMHand_surely_out ctMHand_surely_out), slMHand_surely_out⟩)
    (cMHand_surely_out : PySem.W.codeIn K cdMHand_surely_out "Hand.surely_out" = true)
    (kMHand_surely_out : PySem.W.keepIn K (.ref fMHand_surely_out) = true)
    {fMHand_surely_over : Addr} {odMHand_surely_over anMHand_surely_over : Option Addr} {slMHand_surely_over : Array (Option Value)} {ocMHand_surely_over kVMHand_surely_over dcMHand_surely_over pmMHand_surely_over cdMHand_surely_over ctMHand_surely_over : Value}
    (aMHand_surely_over : PySem.W.findIn K (.ref C_Hand) "surely_over" = some (some (.ref fMHand_surely_over)))
    (iMHand_surely_over : PySem.W.isFn K (.ref fMHand_surely_over) = true)
    (lMHand_surely_over : K.lookup fMHand_surely_over = some ⟨ocMHand_surely_over, odMHand_surely_over, .func (PySem.W.fnOf "surely_over" "Hand.surely_over" (defArgs (inClass (topS 15) 5)) (defBody (inClass (topS 15) 5)) (defScope (inClass (topS 15) 5)) .none kVMHand_surely_over dcMHand_surely_over pmMHand_surely_over anMHand_surely_over cdMHand_surely_over ctMHand_surely_over), slMHand_surely_over⟩)
    (cMHand_surely_over : PySem.W.codeIn K cdMHand_surely_over "Hand.surely_over" = true)
    (kMHand_surely_over : PySem.W.keepIn K (.ref fMHand_surely_over) = true)
    {fMHand_left : Addr} {odMHand_left anMHand_left : Option Addr} {slMHand_left : Array (Option Value)} {ocMHand_left kVMHand_left dcMHand_left pmMHand_left cdMHand_left ctMHand_left : Value}
    (aMHand_left : PySem.W.findIn K (.ref C_Hand) "left" = some (some (.ref fMHand_left)))
    (iMHand_left : PySem.W.isFn K (.ref fMHand_left) = true)
    (lMHand_left : K.lookup fMHand_left = some ⟨ocMHand_left, odMHand_left, .func (PySem.W.fnOf "left" "Hand.left" (defArgs (inClass (topS 15) 6)) (defBody (inClass (topS 15) 6)) (defScope (inClass (topS 15) 6)) .none kVMHand_left dcMHand_left pmMHand_left anMHand_left cdMHand_left ctMHand_left), slMHand_left⟩)
    (cMHand_left : PySem.W.codeIn K cdMHand_left "Hand.left" = true)
    (kMHand_left : PySem.W.keepIn K (.ref fMHand_left) = true)
    {fMHand_tells : Addr} {odMHand_tells anMHand_tells : Option Addr} {slMHand_tells : Array (Option Value)} {ocMHand_tells kVMHand_tells dcMHand_tells pmMHand_tells cdMHand_tells ctMHand_tells : Value}
    (aMHand_tells : PySem.W.findIn K (.ref C_Hand) "tells" = some (some (.ref fMHand_tells)))
    (iMHand_tells : PySem.W.isFn K (.ref fMHand_tells) = true)
    (lMHand_tells : K.lookup fMHand_tells = some ⟨ocMHand_tells, odMHand_tells, .func (PySem.W.fnOf "tells" "Hand.tells" (defArgs (inClass (topS 15) 7)) (defBody (inClass (topS 15) 7)) (defScope (inClass (topS 15) 7)) .none kVMHand_tells dcMHand_tells pmMHand_tells anMHand_tells cdMHand_tells ctMHand_tells), slMHand_tells⟩)
    (cMHand_tells : PySem.W.codeIn K cdMHand_tells "Hand.tells" = true)
    (kMHand_tells : PySem.W.keepIn K (.ref fMHand_tells) = true)
    {fMHand_soonest : Addr} {odMHand_soonest anMHand_soonest : Option Addr} {slMHand_soonest : Array (Option Value)} {ocMHand_soonest kVMHand_soonest dcMHand_soonest pmMHand_soonest cdMHand_soonest ctMHand_soonest : Value}
    (aMHand_soonest : PySem.W.findIn K (.ref C_Hand) "soonest" = some (some (.ref fMHand_soonest)))
    (iMHand_soonest : PySem.W.isFn K (.ref fMHand_soonest) = true)
    (lMHand_soonest : K.lookup fMHand_soonest = some ⟨ocMHand_soonest, odMHand_soonest, .func (PySem.W.fnOf "soonest" "Hand.soonest" (defArgs (inClass (topS 15) 8)) (defBody (inClass (topS 15) 8)) (defScope (inClass (topS 15) 8)) .none kVMHand_soonest dcMHand_soonest pmMHand_soonest anMHand_soonest cdMHand_soonest ctMHand_soonest), slMHand_soonest⟩)
    (cMHand_soonest : PySem.W.codeIn K cdMHand_soonest "Hand.soonest" = true)
    (kMHand_soonest : PySem.W.keepIn K (.ref fMHand_soonest) = true)
    (n_Hand_name : PySem.W.findIn K (.ref C_Hand) "name" = some none)
    (n_Hand_apart : PySem.W.findIn K (.ref C_Hand) "apart" = some none)
    (n_Hand_kept : PySem.W.findIn K (.ref C_Hand) "kept" = some none)
    (u_NoLoan_LentError : PySem.W.subIn K (.ref C_NoLoan) (.ref C_LentError) = some true)
    (u_NoLoan_NoLoan : PySem.W.subIn K (.ref C_NoLoan) (.ref C_NoLoan) = some true)
    (u_NoLoan_NoMoment : PySem.W.subIn K (.ref C_NoLoan) (.ref C_NoMoment) = some false)
    (z_all : PySem.W.nsIn K mainGlobals "all" = some none)
    (z_isinstance : PySem.W.nsIn K mainGlobals "isinstance" = some none)
    (z_str : PySem.W.nsIn K mainGlobals "str" = some none)
    (z_len : PySem.W.nsIn K mainGlobals "len" = some none)
    (z_int : PySem.W.nsIn K mainGlobals "int" = some none)
    (z_bool : PySem.W.nsIn K mainGlobals "bool" = some none)
    (z_max : PySem.W.nsIn K mainGlobals "max" = some none)
    (z_sorted : PySem.W.nsIn K mainGlobals "sorted" = some none)
    (z_range : PySem.W.nsIn K mainGlobals "range" = some none)
    (z_list : PySem.W.nsIn K mainGlobals "list" = some none)
    (z_min : PySem.W.nsIn K mainGlobals "min" = some none)
    (z_zip : PySem.W.nsIn K mainGlobals "zip" = some none)
    {tk_MOST_LETTERS : Tok} (c_MOST_LETTERS : PySem.W.nsIn K mainGlobals "MOST_LETTERS" = some (some (.int 8 tk_MOST_LETTERS)))
    {tk_LETTERS : Tok} (c_LETTERS : PySem.W.nsIn K mainGlobals "LETTERS" = some (some (.str "abcdefghijklmnopqrstuvwxyz" tk_LETTERS)))
    {tk_MOST_APART : Tok} (c_MOST_APART : PySem.W.nsIn K mainGlobals "MOST_APART" = some (some (.int 1000000 tk_MOST_APART))) :
    ∃ fd : FuncData, (∀ (s : Shared) (v : Value), BindsTo s fd ⟨[v], []⟩ [("_law_script", v)]) ∧ ∀ base : Heap, K.In base → base.Ns mainGlobals mg → FnOk l.prog w K mg base CX0 6 fa fd ["_law_script"] (sp_law K) := by
  have e := hfa.symm.trans (PySem.W.mg_of X G a17)
  cases e
  have T : Txt K mg ⟨C_LentError, C_NoMoment, C_NoHand, C_NoLoan, C_NoApart, C_Hand⟩ := { x_LentError := ⟨PySem.W.mg_of X G aC_LentError, xx_LentError, kc_LentError, xb_LentError, xt_LentError, hd_LentError, xv_LentError, ⟨xg_LentError, xh_LentError, xb_LentError, hd_LentError, ha_LentError, hn0, ht0, hm_LentError⟩⟩, x_NoMoment := ⟨PySem.W.mg_of X G aC_NoMoment, xx_NoMoment, kc_NoMoment, xb_NoMoment, xt_NoMoment, hd_NoMoment, xv_NoMoment, ⟨xg_NoMoment, xh_NoMoment, xb_NoMoment, hd_NoMoment, ha_NoMoment, hn0, ht0, hm_NoMoment⟩⟩, x_NoHand := ⟨PySem.W.mg_of X G aC_NoHand, xx_NoHand, kc_NoHand, xb_NoHand, xt_NoHand, hd_NoHand, xv_NoHand, ⟨xg_NoHand, xh_NoHand, xb_NoHand, hd_NoHand, ha_NoHand, hn0, ht0, hm_NoHand⟩⟩, x_NoLoan := ⟨PySem.W.mg_of X G aC_NoLoan, xx_NoLoan, kc_NoLoan, xb_NoLoan, xt_NoLoan, hd_NoLoan, xv_NoLoan, ⟨xg_NoLoan, xh_NoLoan, xb_NoLoan, hd_NoLoan, ha_NoLoan, hn0, ht0, hm_NoLoan⟩⟩, x_NoApart := ⟨PySem.W.mg_of X G aC_NoApart, xx_NoApart, kc_NoApart, xb_NoApart, xt_NoApart, hd_NoApart, xv_NoApart, ⟨xg_NoApart, xh_NoApart, xb_NoApart, hd_NoApart, ha_NoApart, hn0, ht0, hm_NoApart⟩⟩, o_Hand := ⟨PySem.W.mg_of X G aC_Hand, ⟨pg_Hand, hd_Hand, po_Hand, sa_Hand⟩, ha_Hand, hn0, ht0, hm_Hand⟩, i_Hand := ⟨PySem.W.mg_of X G aC_Hand, _, _, ⟨mk_Hand, aIHand, iIHand, kc_Hand⟩, fun_mk (st := inClass (topS 15) 0) lIHand cIHand kIHand, (fun_mk (st := inClass (topS 15) 0) lIHand cIHand kIHand).binds (ps := ["self", "name", "apart"]) fun _ _ _ _ _ _ us hl => match us, hl with | [_, _, _], _ => rfl⟩, m_Hand_hears := ⟨_, _, ⟨aMHand_hears, iMHand_hears, kMHand_hears⟩, fun_mk (st := inClass (topS 15) 1) lMHand_hears cMHand_hears kMHand_hears, (fun_mk (st := inClass (topS 15) 1) lMHand_hears cMHand_hears kMHand_hears).binds (ps := ["self", "loan", "end"]) fun _ _ _ _ _ _ us hl => match us, hl with | [_, _, _], _ => rfl⟩, m_Hand_end_of := ⟨_, _, ⟨aMHand_end_of, iMHand_end_of, kMHand_end_of⟩, fun_mk (st := inClass (topS 15) 2) lMHand_end_of cMHand_end_of kMHand_end_of, (fun_mk (st := inClass (topS 15) 2) lMHand_end_of cMHand_end_of kMHand_end_of).binds (ps := ["self", "loan"]) fun _ _ _ _ _ _ us hl => match us, hl with | [_, _], _ => rfl⟩, m_Hand_forgets := ⟨_, _, ⟨aMHand_forgets, iMHand_forgets, kMHand_forgets⟩, fun_mk (st := inClass (topS 15) 3) lMHand_forgets cMHand_forgets kMHand_forgets, (fun_mk (st := inClass (topS 15) 3) lMHand_forgets cMHand_forgets kMHand_forgets).binds (ps := ["self", "loan"]) fun _ _ _ _ _ _ us hl => match us, hl with | [_, _], _ => rfl⟩, m_Hand_surely_out := ⟨_, _, ⟨aMHand_surely_out, iMHand_surely_out, kMHand_surely_out⟩, fun_mk (st := inClass (topS 15) 4) lMHand_surely_out cMHand_surely_out kMHand_surely_out, (fun_mk (st := inClass (topS 15) 4) lMHand_surely_out cMHand_surely_out kMHand_surely_out).binds (ps := ["self", "clock", "loan"]) fun _ _ _ _ _ _ us hl => match us, hl with | [_, _, _], _ => rfl⟩, m_Hand_surely_over := ⟨_, _, ⟨aMHand_surely_over, iMHand_surely_over, kMHand_surely_over⟩, fun_mk (st := inClass (topS 15) 5) lMHand_surely_over cMHand_surely_over kMHand_surely_over, (fun_mk (st := inClass (topS 15) 5) lMHand_surely_over cMHand_surely_over kMHand_surely_over).binds (ps := ["self", "clock", "loan"]) fun _ _ _ _ _ _ us hl => match us, hl with | [_, _, _], _ => rfl⟩, m_Hand_left := ⟨_, _, ⟨aMHand_left, iMHand_left, kMHand_left⟩, fun_mk (st := inClass (topS 15) 6) lMHand_left cMHand_left kMHand_left, (fun_mk (st := inClass (topS 15) 6) lMHand_left cMHand_left kMHand_left).binds (ps := ["self", "clock", "loan"]) fun _ _ _ _ _ _ us hl => match us, hl with | [_, _, _], _ => rfl⟩, m_Hand_tells := ⟨_, _, ⟨aMHand_tells, iMHand_tells, kMHand_tells⟩, fun_mk (st := inClass (topS 15) 7) lMHand_tells cMHand_tells kMHand_tells, (fun_mk (st := inClass (topS 15) 7) lMHand_tells cMHand_tells kMHand_tells).binds (ps := ["self", "clock"]) fun _ _ _ _ _ _ us hl => match us, hl with | [_, _], _ => rfl⟩, m_Hand_soonest := ⟨_, _, ⟨aMHand_soonest, iMHand_soonest, kMHand_soonest⟩, fun_mk (st := inClass (topS 15) 8) lMHand_soonest cMHand_soonest kMHand_soonest, (fun_mk (st := inClass (topS 15) 8) lMHand_soonest cMHand_soonest kMHand_soonest).binds (ps := ["self"]) fun _ _ _ _ _ _ us hl => match us, hl with | [_], _ => rfl⟩, n_Hand_name := n_Hand_name, n_Hand_apart := n_Hand_apart, n_Hand_kept := n_Hand_kept, u_NoLoan_LentError := u_NoLoan_LentError, u_NoLoan_NoLoan := u_NoLoan_NoLoan, u_NoLoan_NoMoment := u_NoLoan_NoMoment, m_all := PySem.W.mg_none_of X G z_all, m_isinstance := PySem.W.mg_none_of X G z_isinstance, m_str := PySem.W.mg_none_of X G z_str, m_len := PySem.W.mg_none_of X G z_len, m_int := PySem.W.mg_none_of X G z_int, m_bool := PySem.W.mg_none_of X G z_bool, m_max := PySem.W.mg_none_of X G z_max, m_sorted := PySem.W.mg_none_of X G z_sorted, m_range := PySem.W.mg_none_of X G z_range, m_list := PySem.W.mg_none_of X G z_list, m_min := PySem.W.mg_none_of X G z_min, m_zip := PySem.W.mg_none_of X G z_zip, g_MOST_LETTERS := ⟨_, PySem.W.mg_of X G c_MOST_LETTERS, ⟨_, rfl⟩⟩, g_LETTERS := ⟨_, PySem.W.mg_of X G c_LETTERS, ⟨_, rfl⟩⟩, g_MOST_APART := ⟨_, PySem.W.mg_of X G c_MOST_APART, ⟨_, rfl⟩⟩, f_is_name := ⟨_, _, PySem.W.mg_of X G a1, fun_mk (st := topS 9) l1 c1 k1, (fun_mk (st := topS 9) l1 c1 k1).binds (ps := ["thing"]) fun _ _ _ _ _ _ us hl => match us, hl with | [_], _ => rfl⟩, f_is_whole := ⟨_, _, PySem.W.mg_of X G a2, fun_mk (st := topS 10) l2 c2 k2, (fun_mk (st := topS 10) l2 c2 k2).binds (ps := ["thing", "low", "high"]) fun _ _ _ _ _ _ us hl => match us, hl with | [_, _, _], _ => rfl⟩, f_is_count := ⟨_, _, PySem.W.mg_of X G a3, fun_mk (st := topS 11) l3 c3 k3, (fun_mk (st := topS 11) l3 c3 k3).binds (ps := ["thing"]) fun _ _ _ _ _ _ us hl => match us, hl with | [_], _ => rfl⟩, f_sure_clock := ⟨_, _, PySem.W.mg_of X G a4, fun_mk (st := topS 14) l4 c4 k4, (fun_mk (st := topS 14) l4 c4 k4).binds (ps := ["clock"]) fun _ _ _ _ _ _ us hl => match us, hl with | [_], _ => rfl⟩, f__law_cell_at := ⟨_, _, PySem.W.mg_of X G a5, fun_mk (st := topS 17) l5 c5 k5, (fun_mk (st := topS 17) l5 c5 k5).binds (ps := ["_law_script", "_law_k"]) fun _ _ _ _ _ _ us hl => match us, hl with | [_, _], _ => rfl⟩, f__law_state := ⟨_, _, PySem.W.mg_of X G a6, fun_mk (st := topS 18) l6 c6 k6, (fun_mk (st := topS 18) l6 c6 k6).binds (ps := ["_law_cell", "_law_k"]) fun _ _ _ _ _ _ us hl => match us, hl with | [_, _], _ => rfl⟩, f__law_mixed := ⟨_, _, PySem.W.mg_of X G a7, fun_mk (st := topS 19) l7 c7 k7, (fun_mk (st := topS 19) l7 c7 k7).binds (ps := ["_law_number"]) fun _ _ _ _ _ _ us hl => match us, hl with | [_], _ => rfl⟩, f__law_digit := ⟨_, _, PySem.W.mg_of X G a8, fun_mk (st := topS 20) l8 c8 k8, (fun_mk (st := topS 20) l8 c8 k8).binds (ps := ["_law_state_here", "_law_base"]) fun _ _ _ _ _ _ us hl => match us, hl with | [_, _], _ => rfl⟩, f__law_name := ⟨_, _, PySem.W.mg_of X G a9, fun_mk (st := topS 21) l9 c9 k9, (fun_mk (st := topS 21) l9 c9 k9).binds (ps := ["_law_state_here"]) fun _ _ _ _ _ _ us hl => match us, hl with | [_], _ => rfl⟩, f__law_apart := ⟨_, _, PySem.W.mg_of X G a10, fun_mk (st := topS 22) l10 c10 k10, (fun_mk (st := topS 22) l10 c10 k10).binds (ps := ["_law_state_here"]) fun _ _ _ _ _ _ us hl => match us, hl with | [_], _ => rfl⟩, f__law_end := ⟨_, _, PySem.W.mg_of X G a11, fun_mk (st := topS 23) l11 c11 k11, (fun_mk (st := topS 23) l11 c11 k11).binds (ps := ["_law_state_here", "_law_base"]) fun _ _ _ _ _ _ us hl => match us, hl with | [_, _], _ => rfl⟩, f__law_loans := ⟨_, _, PySem.W.mg_of X G a12, fun_mk (st := topS 24) l12 c12 k12, (fun_mk (st := topS 24) l12 c12 k12).binds (ps := ["_law_state_here"]) fun _ _ _ _ _ _ us hl => match us, hl with | [_], _ => rfl⟩, f__law_told := ⟨_, _, PySem.W.mg_of X G a13, fun_mk (st := topS 25) l13 c13 k13, (fun_mk (st := topS 25) l13 c13 k13).binds (ps := ["_law_hand", "_law_loan", "_law_clock"]) fun _ _ _ _ _ _ us hl => match us, hl with | [_, _, _], _ => rfl⟩, f__law_due := ⟨_, _, PySem.W.mg_of X G a14, fun_mk (st := topS 26) l14 c14 k14, (fun_mk (st := topS 26) l14 c14 k14).binds (ps := ["_law_own", "_law_loan", "_law_clock"]) fun _ _ _ _ _ _ us hl => match us, hl with | [_, _, _], _ => rfl⟩, f__law_lists_right := ⟨_, _, PySem.W.mg_of X G a15, fun_mk (st := topS 27) l15 c15 k15, (fun_mk (st := topS 27) l15 c15 k15).binds (ps := ["_law_hand", "_law_own", "_law_clock"]) fun _ _ _ _ _ _ us hl => match us, hl with | [_, _, _], _ => rfl⟩, f__law_step := ⟨_, _, PySem.W.mg_of X G a16, fun_mk (st := topS 28) l16 c16 k16, (fun_mk (st := topS 28) l16 c16 k16).binds (ps := ["_law_hand", "_law_own", "_law_forgets", "_law_loan", "_law_end_here"]) fun _ _ _ _ _ _ us hl => match us, hl with | [_, _, _, _, _], _ => rfl⟩ }
  exact ⟨PySem.W.fnOf "law" "law" (defArgs s_law) (defBody s_law) (defScope s_law) .none kV17 dc17 pm17 an17 cd17 ct17, fun s v => .of_eq rfl, fun base _ _ => ok_law (fun_mk (st := s_law) l17 c17 k17) T⟩
end W
open PySem PySem.W PyProof.Rows
set_option maxRecDepth 100000 in
set_option maxHeartbeats 0 in
theorem PySem.Challenge.cw_rowlent_k44_two_hands_by_turns_holds : PySem.Challenge.rw_rowlent_k44_two_hands_by_turns.Holds := by
  w_on; o_law; k_head; (case hw => w_witness2)
  k_fill
  refine L2.walk_ofK (l := PySem.Challenge.rw_rowlent_k44_two_hands_by_turns) (n := 63) (k := 6) (x := "_law_script") (CX := L2.CX0) (sp := W.sp_law) rfl (by decide) rfl ⟨rfl, by decide, by decide⟩ (fun w h Y => by first | exact PySem.W.kIn_of Y | exact PySem.W.km_in_of Y) ?F (fun _ _ a ns hl hO hS => ⟨ns, ⟨a, rfl, hS, hl⟩, R.wf_only hO, fun _ => rfl⟩) (fun _ _ _ _ h => h)
  case F =>
    intro w mg fa h KX G hmg
    refine' W.all_mk KX G hmg ?a1 ?l1 ?c1 ?k1 ?a2 ?l2 ?c2 ?k2 ?a3 ?l3 ?c3 ?k3 ?a4 ?l4 ?c4 ?k4 ?a5 ?l5 ?c5 ?k5 ?a6 ?l6 ?c6 ?k6 ?a7 ?l7 ?c7 ?k7 ?a8 ?l8 ?c8 ?k8 ?a9 ?l9 ?c9 ?k9 ?a10 ?l10 ?c10 ?k10 ?a11 ?l11 ?c11 ?k11 ?a12 ?l12 ?c12 ?k12 ?a13 ?l13 ?c13 ?k13 ?a14 ?l14 ?c14 ?k14 ?a15 ?l15 ?c15 ?k15 ?a16 ?l16 ?c16 ?k16 ?a17 ?l17 ?c17 ?k17 ?hn0 ?ht0 ?aC_LentError ?ha_LentError ?hm_LentError ?hd_LentError ?kc_LentError ?xx_LentError ?xb_LentError ?xt_LentError ?xv_LentError ?xg_LentError ?xh_LentError ?aC_NoMoment ?ha_NoMoment ?hm_NoMoment ?hd_NoMoment ?kc_NoMoment ?xx_NoMoment ?xb_NoMoment ?xt_NoMoment ?xv_NoMoment ?xg_NoMoment ?xh_NoMoment ?aC_NoHand ?ha_NoHand ?hm_NoHand ?hd_NoHand ?kc_NoHand ?xx_NoHand ?xb_NoHand ?xt_NoHand ?xv_NoHand ?xg_NoHand ?xh_NoHand ?aC_NoLoan ?ha_NoLoan ?hm_NoLoan ?hd_NoLoan ?kc_NoLoan ?xx_NoLoan ?xb_NoLoan ?xt_NoLoan ?xv_NoLoan ?xg_NoLoan ?xh_NoLoan ?aC_NoApart ?ha_NoApart ?hm_NoApart ?hd_NoApart ?kc_NoApart ?xx_NoApart ?xb_NoApart ?xt_NoApart ?xv_NoApart ?xg_NoApart ?xh_NoApart ?aC_Hand ?ha_Hand ?hm_Hand ?hd_Hand ?kc_Hand ?pg_Hand ?po_Hand ?sa_Hand ?mk_Hand ?aIHand ?iIHand ?lIHand ?cIHand ?kIHand ?aMHand_hears ?iMHand_hears ?lMHand_hears ?cMHand_hears ?kMHand_hears ?aMHand_end_of ?iMHand_end_of ?lMHand_end_of ?cMHand_end_of ?kMHand_end_of ?aMHand_forgets ?iMHand_forgets ?lMHand_forgets ?cMHand_forgets ?kMHand_forgets ?aMHand_surely_out ?iMHand_surely_out ?lMHand_surely_out ?cMHand_surely_out ?kMHand_surely_out ?aMHand_surely_over ?iMHand_surely_over ?lMHand_surely_over ?cMHand_surely_over ?kMHand_surely_over ?aMHand_left ?iMHand_left ?lMHand_left ?cMHand_left ?kMHand_left ?aMHand_tells ?iMHand_tells ?lMHand_tells ?cMHand_tells ?kMHand_tells ?aMHand_soonest ?iMHand_soonest ?lMHand_soonest ?cMHand_soonest ?kMHand_soonest ?n_Hand_name ?n_Hand_apart ?n_Hand_kept ?u_NoLoan_LentError ?u_NoLoan_NoLoan ?u_NoLoan_NoMoment ?z_all ?z_isinstance ?z_str ?z_len ?z_int ?z_bool ?z_max ?z_sorted ?z_range ?z_list ?z_min ?z_zip ?c_MOST_LETTERS ?c_LETTERS ?c_MOST_APART
    (case a1 => k_is)
    (case l1 => k_is)
    (case c1 => k_is)
    (case k1 => k_is)
    (case a2 => k_is)
    (case l2 => k_is)
    (case c2 => k_is)
    (case k2 => k_is)
    (case a3 => k_is)
    (case l3 => k_is)
    (case c3 => k_is)
    (case k3 => k_is)
    (case a4 => k_is)
    (case l4 => k_is)
    (case c4 => k_is)
    (case k4 => k_is)
    (case a5 => k_is)
    (case l5 => k_is)
    (case c5 => k_is)
    (case k5 => k_is)
    (case a6 => k_is)
    (case l6 => k_is)
    (case c6 => k_is)
    (case k6 => k_is)
    (case a7 => k_is)
    (case l7 => k_is)
    (case c7 => k_is)
    (case k7 => k_is)
    (case a8 => k_is)
    (case l8 => k_is)
    (case c8 => k_is)
    (case k8 => k_is)
    (case a9 => k_is)
    (case l9 => k_is)
    (case c9 => k_is)
    (case k9 => k_is)
    (case a10 => k_is)
    (case l10 => k_is)
    (case c10 => k_is)
    (case k10 => k_is)
    (case a11 => k_is)
    (case l11 => k_is)
    (case c11 => k_is)
    (case k11 => k_is)
    (case a12 => k_is)
    (case l12 => k_is)
    (case c12 => k_is)
    (case k12 => k_is)
    (case a13 => k_is)
    (case l13 => k_is)
    (case c13 => k_is)
    (case k13 => k_is)
    (case a14 => k_is)
    (case l14 => k_is)
    (case c14 => k_is)
    (case k14 => k_is)
    (case a15 => k_is)
    (case l15 => k_is)
    (case c15 => k_is)
    (case k15 => k_is)
    (case a16 => k_is)
    (case l16 => k_is)
    (case c16 => k_is)
    (case k16 => k_is)
    (case a17 => k_is)
    (case l17 => k_is)
    (case c17 => k_is)
    (case k17 => k_is)
    (case hn0 => k_is)
    (case ht0 => k_is)
    (case aC_LentError => k_is)
    (case ha_LentError => k_is)
    (case hm_LentError => k_is)
    (case hd_LentError => k_is)
    (case kc_LentError => k_is)
    (case xx_LentError => k_exc)
    (case xb_LentError => k_is)
    (case xt_LentError => k_is)
    (case xv_LentError => k_is)
    (case xg_LentError => k_is)
    (case xh_LentError => k_is)
    (case aC_NoMoment => k_is)
    (case ha_NoMoment => k_is)
    (case hm_NoMoment => k_is)
    (case hd_NoMoment => k_is)
    (case kc_NoMoment => k_is)
    (case xx_NoMoment => k_exc)
    (case xb_NoMoment => k_is)
    (case xt_NoMoment => k_is)
    (case xv_NoMoment => k_is)
    (case xg_NoMoment => k_is)
    (case xh_NoMoment => k_is)
    (case aC_NoHand => k_is)
    (case ha_NoHand => k_is)
    (case hm_NoHand => k_is)
    (case hd_NoHand => k_is)
    (case kc_NoHand => k_is)
    (case xx_NoHand => k_exc)
    (case xb_NoHand => k_is)
    (case xt_NoHand => k_is)
    (case xv_NoHand => k_is)
    (case xg_NoHand => k_is)
    (case xh_NoHand => k_is)
    (case aC_NoLoan => k_is)
    (case ha_NoLoan => k_is)
    (case hm_NoLoan => k_is)
    (case hd_NoLoan => k_is)
    (case kc_NoLoan => k_is)
    (case xx_NoLoan => k_exc)
    (case xb_NoLoan => k_is)
    (case xt_NoLoan => k_is)
    (case xv_NoLoan => k_is)
    (case xg_NoLoan => k_is)
    (case xh_NoLoan => k_is)
    (case aC_NoApart => k_is)
    (case ha_NoApart => k_is)
    (case hm_NoApart => k_is)
    (case hd_NoApart => k_is)
    (case kc_NoApart => k_is)
    (case xx_NoApart => k_exc)
    (case xb_NoApart => k_is)
    (case xt_NoApart => k_is)
    (case xv_NoApart => k_is)
    (case xg_NoApart => k_is)
    (case xh_NoApart => k_is)
    (case aC_Hand => k_is)
    (case ha_Hand => k_is)
    (case hm_Hand => k_is)
    (case hd_Hand => k_is)
    (case kc_Hand => k_is)
    (case pg_Hand => k_is)
    (case po_Hand => k_is)
    (case sa_Hand => k_is)
    (case mk_Hand => k_is)
    (case aIHand => k_is)
    (case iIHand => k_is)
    (case lIHand => k_is)
    (case cIHand => k_is)
    (case kIHand => k_is)
    (case aMHand_hears => k_is)
    (case iMHand_hears => k_is)
    (case lMHand_hears => k_is)
    (case cMHand_hears => k_is)
    (case kMHand_hears => k_is)
    (case aMHand_end_of => k_is)
    (case iMHand_end_of => k_is)
    (case lMHand_end_of => k_is)
    (case cMHand_end_of => k_is)
    (case kMHand_end_of => k_is)
    (case aMHand_forgets => k_is)
    (case iMHand_forgets => k_is)
    (case lMHand_forgets => k_is)
    (case cMHand_forgets => k_is)
    (case kMHand_forgets => k_is)
    (case aMHand_surely_out => k_is)
    (case iMHand_surely_out => k_is)
    (case lMHand_surely_out => k_is)
    (case cMHand_surely_out => k_is)
    (case kMHand_surely_out => k_is)
    (case aMHand_surely_over => k_is)
    (case iMHand_surely_over => k_is)
    (case lMHand_surely_over => k_is)
    (case cMHand_surely_over => k_is)
    (case kMHand_surely_over => k_is)
    (case aMHand_left => k_is)
    (case iMHand_left => k_is)
    (case lMHand_left => k_is)
    (case cMHand_left => k_is)
    (case kMHand_left => k_is)
    (case aMHand_tells => k_is)
    (case iMHand_tells => k_is)
    (case lMHand_tells => k_is)
    (case cMHand_tells => k_is)
    (case kMHand_tells => k_is)
    (case aMHand_soonest => k_is)
    (case iMHand_soonest => k_is)
    (case lMHand_soonest => k_is)
    (case cMHand_soonest => k_is)
    (case kMHand_soonest => k_is)
    (case n_Hand_name => k_is)
    (case n_Hand_apart => k_is)
    (case n_Hand_kept => k_is)
    (case u_NoLoan_LentError => first | rfl | k_is)
    (case u_NoLoan_NoLoan => first | rfl | k_is)
    (case u_NoLoan_NoMoment => first | rfl | k_is)
    (case z_all => k_is)
    (case z_isinstance => k_is)
    (case z_str => k_is)
    (case z_len => k_is)
    (case z_int => k_is)
    (case z_bool => k_is)
    (case z_max => k_is)
    (case z_sorted => k_is)
    (case z_range => k_is)
    (case z_list => k_is)
    (case z_min => k_is)
    (case z_zip => k_is)
    (case c_MOST_LETTERS => k_is)
    (case c_LETTERS => k_is)
    (case c_MOST_APART => k_is)
