import PyProof.Rows.All
import Wide.All
import OpenK.AllK
import Wide.FinOn
import HandS.ForMost
import HandS.ForExc
import HandS.IsInst
import HandS.Wide
import HandS.Flow
import HandS.Walk
import HandS.Codes
import HandS.Conv
import HandS.WordsExc
import HandS.ExcOwn
import HandS.ExcIs
import HandS.TryOnly
import HandS.TryMany
import HandS.WordsDict
import PySem.Challenge.RW_rowlent_k04_who_goes_ahead
set_option Elab.async false
set_option linter.all false
set_option maxRecDepth 100000
set_option maxHeartbeats 4000000

namespace R
open PySem PySem.Spec PyProof.Rows L2
/-! ### heaps that may be cut back to what is wanted -/
def Flat : HO → Prop
  | .dT kvs => kvs = []
  | .ins _ _ _ => False
  | .frz _ u => Flat u
  | _ => True
def Wf (H : Hp) : Prop := ∀ a o, H a = some o → Flat o ∨ ∃ C dx fs, o = .ins C dx fs ∧ H dx = some (.own a)
theorem flat_ok {P : Program} {w : World} {H H2 : Hp} {h : Heap} {a : Addr} {o : HO} (f : Flat o) (x : ObjOk P w H h a o) : ObjOk P w H2 h a o := by
  induction o with
  | dT kvs =>
    have e : kvs = [] := f
    subst e
    obtain ⟨z, y, xs, r, q⟩ := x
    cases r
    exact ⟨z, y, [], .nil, q⟩
  | ins C dx fs => exact f.elim
  | frz ob u ih => exact ⟨x.1, ih f x.2⟩
  | lst xs => exact x
  | tup xs => exact x
  | dK kvs => exact x
  | set S n => exact x
  | own y => exact x
  | xd fs => exact x
  | met g y => exact x
  | rng lo hi => exact x
  | tbl ps => exact x
  | ext φ => exact x
/-- H2: what is kept of H' behind a piece of code that began in H -/
structure Back (H H2 H' : Hp) : Prop where
  sub : ∀ a o, H2 a = some o → H' a = some o
  kp : ∀ a o, H a = some o → H2 a = H' a
  wf : Wf H2
theorem Back.refl {H H' : Hp} (w : Wf H') : Back H H' H' := ⟨fun _ _ h => h, fun _ _ _ => rfl, w⟩
theorem Back.hok {P : Program} {w : World} {H H2 H' : Hp} {h : Heap} (b : Back H H2 H') (x : HOk P w H' h) : HOk P w H2 h := fun a o e => by
  have q := x a o (b.sub a o e)
  rcases b.wf a o e with f | ⟨C, dx, fs, rfl, hd⟩
  · exact flat_ok f q
  · obtain ⟨_, z⟩ := q
    exact ⟨hd, z⟩
theorem Back.un {fs ex : List Addr} {H0 H H2 H' : Hp} {h h' : Heap} (b : Back H H2 H') (u0 : ∀ a o, H0 a = some o → (∀ xs, o = .tup xs → H a = some o) ∧ (∀ z y, o = .frz z y → H a = some o) ∧ (∀ ps, o = .tbl ps → ∃ m, H a = some (.tbl m)))
    (u : Un fs ex H0 H' h h') : Un fs ex H0 H2 h h' where
  keep := u.keep
  slot := u.slot
  there := u.there
  free := fun c ob q n hx => by
    have z := u.free c ob q n hx
    cases e : H2 c with
    | none => rfl
    | some x =>
      have y := b.sub c x e
      rw [z] at y
      cases y
  tups := fun c xs q => by
    have z := (u0 c _ q).1 xs rfl
    rw [b.kp c _ z]
    exact u.tups c xs q
  frzs := fun c ob x q => by
    have z := (u0 c _ q).2.1 ob x rfl
    rw [b.kp c _ z]
    exact u.frzs c ob x q
  tbls := fun c ps q => by
    obtain ⟨m, z⟩ := (u0 c _ q).2.2 ps rfl
    rw [b.kp c _ z]
    exact u.tbls c ps q
theorem Back.un0 {fs ex : List Addr} {H H2 H' : Hp} {h h' : Heap} (b : Back H H2 H') (u : Un fs ex H H' h h') : Un fs ex H H2 h h' :=
  b.un (fun a o e => ⟨fun xs r => e, fun _ _ _ => e, fun ps r => ⟨ps, by rw [e, r]⟩⟩) u
theorem Back.ub {fs : List Addr} {H H2 H' : Hp} {h B h' : Heap} (b : Back H H2 H') (u : UB fs H H' h B h') : UB fs H H2 h B h' where
  keep := u.keep
  slot := u.slot
  there := u.there
  free := fun c ob q n => by
    have z := u.free c ob q n
    cases e : H2 c with
    | none => rfl
    | some x =>
      have y := b.sub c x e
      rw [z] at y
      cases y
  tups := fun c xs q => by
    rw [b.kp c _ q]
    exact u.tups c xs q
  frzs := fun c ob x q => by
    rw [b.kp c _ q]
    exact u.frzs c ob x q
  tbls := fun c ps q => by
    rw [b.kp c _ q]
    exact u.tbls c ps q
def bQ (H : Hp) (Q : VK) : VK := fun v H' => ∃ H2, Back H H2 H' ∧ Q v H2
def bE (H : Hp) (E : XK) : XK := fun c d H' => ∃ H2, Back H H2 H' ∧ E c d H2
theorem bQ.mk {H : Hp} {Q : VK} {v : V} {H' : Hp} (w : Wf H') (q : Q v H') : bQ H Q v H' := ⟨H', Back.refl w, q⟩
section
variable {P : Program} {w : World} {K : PySem.W.Frag} {mg : Str → Option Value} {base : Heap} {k : Nat} {f : Addr} {fd : FuncData} {ps : List Str} {sp : Sp}
theorem ce_back {outer : List Env} {H : Hp} {s s' : Shared} {Q : VK} {u : Value} (h : CE outer P w H s (bQ H Q) u s') : CE outer P w H s Q u s' := by
  obtain ⟨v, H', os, bare, un, hok, r, H2, b, q⟩ := h
  exact ⟨v, H2, os, bare, b.un0 un, b.hok hok, r, q⟩
theorem cx_back {outer : List Env} {H : Hp} {s s' : Shared} {E : XK} {u : Value} (h : L2.CX P w outer H s (bE H E) u s') : L2.CX P w outer H s E u s' := by
  obtain ⟨a, B, H', cls, d, e, fl, hok, ub, na, os, ag, H2, b, q⟩ := h
  refine ⟨a, B, H2, cls, d, e, fl, b.hok hok, b.ub ub, ?_, os, ag, q⟩
  cases z : H2 a with
  | none => rfl
  | some x =>
    have y := b.sub a x z
    rw [na] at y
    cases y
/-- a promise over a heap that is cut back -/
def spB (sp : Sp) : Sp := fun vs H Q' E' => ∃ Q E, Q' = bQ H Q ∧ E' = bE H E ∧ sp vs H Q E
theorem fn_backX (F : FnOk P w K mg base (L2.CX P w) k f fd ps (spB sp)) : FnOk P w K mg base (L2.CX P w) k f fd ps sp := by
  refine ⟨fun vs H Q E q => F.len vs H (bQ H Q) (bE H E) ⟨Q, E, rfl, rfl, q⟩, fun A outer s H args us vs Q E hr he hb hv hs => ?_⟩
  refine codeAny_mono (F.run A outer s H args us vs (bQ H Q) (bE H E) hr he hb hv ⟨Q, E, rfl, rfl, hs⟩) fun r s' hq => ?_
  cases r with
  | error e => exact cx_back hq
  | ok fl =>
    cases fl with
    | ret u => exact ce_back hq
    | next => exact hq
    | brk => exact hq
    | cont => exact hq
theorem fn_back (F : FnOk P w K mg base CX0 k f fd ps (spB sp)) : FnOk P w K mg base CX0 k f fd ps sp := by
  refine ⟨fun vs H Q E q => F.len vs H (bQ H Q) (bE H E) ⟨Q, E, rfl, rfl, q⟩, fun A outer s H args us vs Q E hr he hb hv hs => ?_⟩
  refine codeAny_mono (F.run A outer s H args us vs (bQ H Q) (bE H E) hr he hb hv ⟨Q, E, rfl, rfl, hs⟩) fun r s' hq => ?_
  cases r with
  | error e => exact hq
  | ok fl =>
    cases fl with
    | ret u => exact ce_back hq
    | next => exact hq
    | brk => exact hq
    | cont => exact hq
end
/-- a def that raises nothing, by its body; the heap behind it cut back -/
theorem ok0 {P : Program} {w : World} {K : PySem.W.Frag} {mg : Str → Option Value} {base : Heap} {x qual : Str} {st : Stmt} {f : Addr} {fd : FuncData} {N ps : List Str} {k : Nat} {sp : Sp} (F : Fun K x qual st f fd) (S : FnScope N ps (defScope st)) (len : ∀ vs H Q E, sp vs H Q E → vs.length = ps.length)
    (hbody : ∀ (cdv : Value) (A : Around) (outer : List Env) (s : Shared) (H : Hp) (vs : List V) (Q : VK) (E : XK), Room k (A.deeper (envOfC qual (defScope st) s.heap.objs.size f cdv)) → sp vs H Q E →
      ∃ t, PSs (cxOf CX0 P w K mg base N qual (defScope st) f cdv A outer s H E).nox (defBody st) t ∧ t { nx := fun _ H' => bQ H Q .non H', rt := bQ H Q } (start N vs) H) : FnOk P w K mg base CX0 (k + 1) f fd ps sp := by
  refine fn_back (F.ok S (fun vs H Q E h => ?_) fun cdv A outer s H vs Q' E' hr h => ?_)
  · obtain ⟨Q, E, _, _, q⟩ := h
    exact len vs H Q E q
  · obtain ⟨Q, E, rfl, rfl, q⟩ := h
    exact hbody cdv A outer s H vs Q E hr q
/-- .. that may raise -/
theorem okX {P : Program} {w : World} {K : PySem.W.Frag} {mg : Str → Option Value} {base : Heap} {x qual : Str} {st : Stmt} {f : Addr} {fd : FuncData} {N ps : List Str} {k : Nat} {sp : Sp} (F : Fun K x qual st f fd) (S : FnScope N ps (defScope st)) (len : ∀ vs H Q E, sp vs H Q E → vs.length = ps.length)
    (hbody : ∀ (cdv : Value) (A : Around) (outer : List Env) (s : Shared) (H : Hp) (vs : List V) (Q : VK) (E : XK), Room k (A.deeper (envOfC qual (defScope st) s.heap.objs.size f cdv)) → sp vs H Q E →
      ∃ t, PSs (cxOf (L2.CX P w) P w K mg base N qual (defScope st) f cdv A outer s H (bE H E)) (defBody st) t ∧ t { nx := fun _ H' => bQ H Q .non H', rt := bQ H Q } (start N vs) H) : FnOk P w K mg base (L2.CX P w) (k + 1) f fd ps sp := by
  refine fn_backX (F.okX S (fun vs H Q E h => ?_) fun cdv A outer s H vs Q' E' hr h => ?_)
  · obtain ⟨Q, E, _, _, q⟩ := h
    exact len vs H Q E q
  · obtain ⟨Q, E, rfl, rfl, q⟩ := h
    exact hbody cdv A outer s H vs Q E hr q
section
variable {X : Cx}
/-- the heap behind an expression, a block, cut back -/
def tBack (t : TE) : TE := fun σ H Q => t σ H (bQ H Q)
theorem inv_back {pins : List (Addr × Obj)} {σ : L2.St} {σ0 : L2.St} {H H2 H' : Hp} {s s0 : Shared} (I0 : Inv X pins σ0 H s0) (b : Back H H2 H') (I : Inv X pins σ H' s) : Inv X pins σ H2 s := by
  have fr : ∀ c, H' c = none → H2 c = none := fun c z => by
    cases e : H2 c with
    | none => rfl
    | some x =>
      have y := b.sub c x e
      rw [z] at y
      cases y
  refine ⟨I.ok, I.os, I.bare, b.un (fun a o e => ⟨fun xs r => ?_, fun z y r => ?_, fun ps r => ?_⟩) I.base, I.loc, I.cell, fr _ I.free, fun x c e => fr _ (I.freeC x c e), fun p hp => ?_, b.hok I.hok, I.len⟩
  · subst r
    exact I0.base.tups a xs e
  · subst r
    exact I0.base.frzs a z y e
  · subst r
    obtain ⟨m, h⟩ := I0.base.tbls a ps e
    exact ⟨_, h⟩
  · obtain ⟨a1, a2, a3⟩ := I.pin p hp
    exact ⟨a1, fr _ a2, a3⟩
theorem pe_back {e : Expr} {t : TE} (h : PE X e t) : PE X e (tBack t) := by
  refine ⟨fun pins s σ H Q I q => ?_⟩
  refine thn (h.run pins s σ H _ I q) fun u s1 z => ?_
  obtain ⟨v, H1, I1, r1, H2, b, q2⟩ := z
  exact ⟨v, H2, inv_back I b I1, r1, q2⟩
def bD (H : Hp) (D : Ends) : Ends := { nx := fun σ H' => ∃ H2, Back H H2 H' ∧ D.nx σ H2, rt := bQ H D.rt, bk := fun σ H' => ∃ H2, Back H H2 H' ∧ D.bk σ H2, ct := fun σ H' => ∃ H2, Back H H2 H' ∧ D.ct σ H2 }
def sBack (t : TS) : TS := fun D σ H => t (bD H D) σ H
theorem sp_back {pins : List (Addr × Obj)} {σ : L2.St} {H : Hp} {D : Ends} {s s1 : Shared} {f : Flow} (I : Inv X pins σ H s) (z : SP X pins (bD H D) f s1) : SP X pins D f s1 := by
  cases f with
  | next =>
    obtain ⟨σ', H', I', H2, b, q⟩ := z
    exact ⟨σ', H2, inv_back I b I', q⟩
  | brk =>
    obtain ⟨σ', H', I', H2, b, q⟩ := z
    exact ⟨σ', H2, inv_back I b I', q⟩
  | cont =>
    obtain ⟨σ', H', I', H2, b, q⟩ := z
    exact ⟨σ', H2, inv_back I b I', q⟩
  | ret u =>
    obtain ⟨v, σ', H', I', r, H2, b, q⟩ := z
    exact ⟨v, σ', H2, inv_back I b I', r, q⟩
theorem pss_back {b : List Stmt} {t : TS} (h : PSs X b t) : PSs X b (sBack t) := ⟨fun pins s σ H D I q => thn (h.run pins s σ H _ I q) fun _ _ z => sp_back I z⟩
theorem ps_back {b : Stmt} {t : TS} (h : PS X b t) : PS X b (sBack t) := ⟨fun pins s σ H D I q => thn (h.run pins s σ H _ I q) fun _ _ z => sp_back I z⟩
end
end R
namespace R
open PySem PySem.Spec PyProof.Rows L2
/-! ### readings that reckon: what can be seen is done by whnf, what is left stands as a want -/
theorem imp_e {X : Cx} {e : Expr} {t t' : TE} (h : PE X e t) (i : ∀ σ H Q, t' σ H Q → t σ H Q) : PE X e t' := ⟨fun pins s σ H Q I q => h.run pins s σ H Q I (i σ H Q q)⟩
theorem imp_t {X : Cx} {e : Expr} {t t' : TT} (h : PT X e t) (i : ∀ σ H Q, t' σ H Q → t σ H Q) : PT X e t' := ⟨fun pins s σ H Q I q => h.run pins s σ H Q I (i σ H Q q)⟩
theorem imp_s {X : Cx} {e : Stmt} {t t' : TS} (h : PS X e t) (i : ∀ D σ H, t' D σ H → t D σ H) : PS X e t' := ⟨fun pins s σ H D I q => h.run pins s σ H D I (i D σ H q)⟩
theorem imp_o {X : Cx} {f : Value → Value → Sem Value} {r r' : R2} (h : OpR X f r) (i : ∀ x y H Q, r' x y H Q → r x y H Q) : OpR X f r' := fun pins s σ H x y v u Q I rx ry q => h pins s σ H x y v u Q I rx ry (i x y H Q q)
theorem imp_c {X : Cx} {f : Value} {r r' : List V → Hp → VK → Prop} (h : CallR X f r) (i : ∀ xs H Q, r' xs H Q → r xs H Q) : CallR X f r' := fun pins s σ H xs us Q I rx q => h pins s σ H xs us Q I rx (i xs H Q q)
theorem imp_g {X : Cx} {e : Expr} {t t' : TG} (h : PG X e t) (i : ∀ v σ H Q, t' v σ H Q → t v σ H Q) : PG X e t' := ⟨fun pins s σ H v u Q I r q => h.run pins s σ H v u Q I r (i v σ H Q q)⟩
/-- a name -/
def cVar (i : Nat) : TE := fun σ H Q => match σ[i]? with | some (some v) => Q v H | _ => False
theorem lv {X : Cx} (i : Nat) {x : Str} {pos : Pos} (hN : X.N[i]? = some x := by rfl) (hv : Vis X.env.scope x := by first | exact Or.inl rfl | exact Or.inr (Or.inl rfl) | exact Or.inr (Or.inr rfl)) (hd : (x == ("__debug__" : Str)) = false := by decide)
    (hcd : (x == ("__classdict__" : Str)) = false := by decide) : PE X (.Name x pos) (cVar i) := imp_e (pe_var hN hv hd hcd) fun σ H Q q => by
  unfold cVar at q
  split at q
  · rename_i v e
    exact ⟨v, e, q⟩
  · exact q.elim
/-- a name of the module's top -/
def GlV (mg : Str → Option Value) (x : Str) (v : V) : Prop := ∃ u, mg x = some u ∧ RelV v u
theorem pe_g {X : Cx} {x : Str} {v : V} {pos : Pos} (h : GlV X.mg x v) (hg : Gl X x := by rfl) (hd : (x == ("__debug__" : Str)) = false := by decide) : PE X (.Name x pos) (tC v) := by
  obtain ⟨u, h1, h2⟩ := h
  exact pe_glob hg h1 h2 hd
/-- tests -/
def cTest (t : TE) : TT := fun σ H Q => t σ H fun x H' => match x with | .bl k => Q k H' | _ => False
section
variable {X : Cx} {a b c e : Expr} {ta tb tc te : TE} {tt : TT} {rest : List Expr} {pos : Pos}
theorem imp_Q {X : Cx} {e : Expr} {t : TE} {R R' : V → Hp → Prop} : True := trivial
end
/-- a reading that may be weakened at its end -/
def Mono (t : TE) : Prop := ∀ σ H (Q Q' : VK), (∀ v H', Q v H' → Q' v H') → t σ H Q → t σ H Q'
theorem run_mono {X : Cx} {e : Expr} {t : TE} (h : PE X e t) {t' : TE} (i : ∀ σ H Q, t' σ H Q → ∃ Q0 : VK, (∀ v H', Q0 v H' → Q v H') ∧ t σ H Q0) : PE X e t' := ⟨fun pins s σ H Q I q => by
  obtain ⟨Q0, w, z⟩ := i σ H Q q
  exact thn (h.run pins s σ H Q0 I z) fun u s1 ⟨v, H1, I1, r, q1⟩ => ⟨v, H1, I1, r, w v H1 q1⟩⟩
theorem run_monoT {X : Cx} {e : Expr} {t : TT} (h : PT X e t) {t' : TT} (i : ∀ σ H Q, t' σ H Q → ∃ Q0 : Bool → Hp → Prop, (∀ v H', Q0 v H' → Q v H') ∧ t σ H Q0) : PT X e t' := ⟨fun pins s σ H Q I q => by
  obtain ⟨Q0, w, z⟩ := i σ H Q q
  exact thn (h.run pins s σ H Q0 I z) fun u s1 ⟨H1, I1, q1⟩ => ⟨H1, I1, w u H1 q1⟩⟩
section
variable {X : Cx} {a b c e : Expr} {ta tb tc te : TE} {tt : TT} {rest : List Expr} {pos : Pos}
theorem testM {Q : Bool → Hp → Prop} : ∀ (v : V) (H' : Hp), (match v with | .bl k => Q k H' | _ => False) → ∃ k, v = .bl k ∧ Q k H'
  | .bl k, _, q => ⟨k, rfl, q⟩
  | .non, _, q => q.elim
  | .int _, _, q => q.elim
  | .str _, _, q => q.elim
  | .byt _, _, q => q.elim
  | .flt _, _, q => q.elim
  | .ref _, _, q => q.elim
  | .ty _, _, q => q.elim
/-- an expression that gives a bool, as a test -/
theorem pt_cmpU {op : CmpOp} {r : R2} (ho : OpR X (compareOp op) r) (ha : PE X a ta) (hb : PE X b tb) (hm : behindInMarks op b = false) : PT X (.Compare a [op] [b] pos) (cTest (tOp r ta tb)) := by
  refine ⟨fun pins s σ H Q I q => ?_⟩
  have ho' : OpR X (compareOp op) (fun x y H Q => ∃ Q0 : VK, (∀ v H', Q0 v H' → Q v H') ∧ r x y H Q0) := by
    intro pins s σ H x y v u Q I rx ry h
    obtain ⟨Q0, w, z⟩ := h
    exact thn (ho pins s σ H x y v u Q0 I rx ry z) fun u s1 ⟨v, H1, I1, r, q1⟩ => ⟨v, H1, I1, r, w v H1 q1⟩
  have ha' : PE X a (fun σ H Q => ∃ Q0 : VK, (∀ v H', Q0 v H' → Q v H') ∧ ta σ H Q0) := run_mono ha fun _ _ _ z => z
  have hb' : PE X b (fun σ H Q => ∃ Q0 : VK, (∀ v H', Q0 v H' → Q v H') ∧ tb σ H Q0) := run_mono hb fun _ _ _ z => z
  refine (pt_cmpR ho' ha' hb' hm).run pins s σ H Q I ?_
  exact ⟨_, fun x H1 z => ⟨_, fun y H2 z2 => ⟨_, fun v H3 z3 => testM v H3 z3, z2⟩, z⟩, q⟩
def cChain (r r' : R2) (ta tb tc : TE) : TE := fun σ H Q => ta σ H fun x H1 => tb σ H1 fun y H2 => r x y H2 fun z H3 => match z with
  | .bl k => if k = true then tc σ H3 fun w' H4 => r' y w' H4 Q else Q (.bl false) H3
  | _ => False
theorem chM {A : Bool → Hp → Prop} : ∀ (v : V) (H' : Hp), (match v with | .bl k => A k H' | _ => False) → ∃ k, v = .bl k ∧ A k H' := fun v H' q => testM v H' q
theorem mono_o {f : Value → Value → Sem Value} {r : R2} (ho : OpR X f r) : OpR X f (fun x y H Q => ∃ Q0 : VK, (∀ v H', Q0 v H' → Q v H') ∧ r x y H Q0) := by
  intro pins s σ H x y v u Q I rx ry h
  obtain ⟨Q0, w, z⟩ := h
  exact thn (ho pins s σ H x y v u Q0 I rx ry z) fun u s1 ⟨v, H1, I1, r, q1⟩ => ⟨v, H1, I1, r, w v H1 q1⟩
theorem mono_e {e : Expr} {t : TE} (h : PE X e t) : PE X e (fun σ H Q => ∃ Q0 : VK, (∀ v H', Q0 v H' → Q v H') ∧ t σ H Q0) := run_mono h fun _ _ _ z => z
theorem mono_t {e : Expr} {t : TT} (h : PT X e t) : PT X e (fun σ H Q => ∃ Q0 : Bool → Hp → Prop, (∀ v H', Q0 v H' → Q v H') ∧ t σ H Q0) := run_monoT h fun _ _ _ z => z
theorem pe_chainU {op op' : CmpOp} {r r' : R2} (ho : OpR X (compareOp op) r) (ho' : OpR X (compareOp op') r') (ha : PE X a ta) (hb : PE X b tb) (hc : PE X c tc)
    (hm : lastMarks [op, op'] [b, c] = false := by with_unfolding_all rfl) : PE X (.Compare a [op, op'] [b, c] pos) (cChain r r' ta tb tc) :=
  imp_e (pe_chain (mono_o ho) ho' (mono_e ha) (mono_e hb) hc hm) fun σ H Q q => ⟨_, fun x H1 z => ⟨_, fun y H2 z2 => ⟨_, fun v H3 z3 => testM (Q := fun k H3 => if k = true then tc σ H3 fun w' H4 => r' y w' H4 Q else Q (.bl false) H3) v H3 z3, z2⟩, z⟩, q⟩
theorem pt_chainU {op op' : CmpOp} {r r' : R2} (ho : OpR X (compareOp op) r) (ho' : OpR X (compareOp op') r') (ha : PE X a ta) (hb : PE X b tb) (hc : PE X c tc)
    (hm : lastMarks [op, op'] [b, c] = false := by with_unfolding_all rfl) : PT X (.Compare a [op, op'] [b, c] pos) (cTest (cChain r r' ta tb tc)) := by
  refine imp_t (pt_chain (mono_o ho) (mono_o ho') (mono_e ha) (mono_e hb) (mono_e hc) hm) fun σ H Q q => ?_
  refine ⟨_, fun x H1 z => ⟨_, fun y H2 z2 => ⟨_, fun v H3 z3 => ?_, z2⟩, z⟩, q⟩
  obtain ⟨k, e, z4⟩ := testM (Q := fun k H3 => if k = true then tc σ H3 fun w' H4 => r' y w' H4 _ else _) v H3 z3
  refine ⟨k, e, ?_⟩
  cases k with
  | true =>
    rw [if_pos rfl] at z4 ⊢
    exact ⟨_, fun w' H4 z5 => ⟨_, fun v H5 z6 => testM v H5 z6, z5⟩, z4⟩
  | false =>
    rw [if_neg Bool.false_ne_true] at z4 ⊢
    exact ⟨false, rfl, z4⟩
/-- a value's truth -/
def cTru (K : PySem.W.Frag) (x : V) (H : Hp) (Q : Bool → Hp → Prop) : Prop := match x with
  | .non => Q false H
  | .bl b => Q b H
  | .int i => Q (i != 0) H
  | .str y => y.length ≤ sizeLine ∧ Q ((y.length : Int) != 0) H
  | .ref p => ∃ k, TruV K (.ref p) H k ∧ Q k H
  | _ => False
theorem cTru.ex {K : PySem.W.Frag} {x : V} {H : Hp} {Q : Bool → Hp → Prop} (h : cTru K x H Q) : ∃ k, TruV K x H k ∧ Q k H := by
  cases x with
  | non => exact ⟨false, rfl, h⟩
  | bl b => exact ⟨b, rfl, h⟩
  | int i => exact ⟨_, rfl, h⟩
  | str y => exact ⟨_, ⟨h.1, rfl⟩, h.2⟩
  | ref p => exact h
  | byt _ => exact h.elim
  | flt _ => exact h.elim
  | ty _ => exact h.elim
def cAnd (K : PySem.W.Frag) (ta tb : TE) : TE := fun σ H Q => ta σ H fun x H1 => cTru K x H1 fun k H1 => if k = true then tb σ H1 Q else Q x H1
def cOr (K : PySem.W.Frag) (ta tb : TE) : TE := fun σ H Q => ta σ H fun x H1 => cTru K x H1 fun k H1 => if k = true then Q x H1 else tb σ H1 Q
def cNot (K : PySem.W.Frag) (ta : TE) : TE := fun σ H Q => ta σ H fun x H1 => cTru K x H1 fun k H1 => Q (.bl (!k)) H1
def cTruth (K : PySem.W.Frag) (ta : TE) : TT := fun σ H Q => ta σ H fun x H1 => cTru K x H1 Q
theorem cTru.at {K : PySem.W.Frag} {x : V} {H : Hp} {Q : Bool → Hp → Prop} (h : cTru K x H Q) : ∃ k, TruV K x H k ∧ Q k H := h.ex
theorem pe_andU {K : PySem.W.Frag} (ha : PE X a ta) (hb : PE X (.BoolOp .And (b :: rest) pos) tb) (hK : X.K = K := by rfl) : PE X (.BoolOp .And (a :: b :: rest) pos) (cAnd K ta tb) :=
  hK ▸ imp_e (pe_andT (mono_e ha) hb) fun σ H Q q => ⟨_, fun x H1 z => (cTru.at z : ∃ k, TruV X.K x H1 k ∧ if k = true then tb σ H1 Q else Q x H1), q⟩
theorem pe_orU {K : PySem.W.Frag} (ha : PE X a ta) (hb : PE X (.BoolOp .Or (b :: rest) pos) tb) (hK : X.K = K := by rfl) : PE X (.BoolOp .Or (a :: b :: rest) pos) (cOr K ta tb) :=
  hK ▸ imp_e (pe_orT (mono_e ha) hb) fun σ H Q q => ⟨_, fun x H1 z => (cTru.at z : ∃ k, TruV X.K x H1 k ∧ if k = true then Q x H1 else tb σ H1 Q), q⟩
theorem pe_notU {K : PySem.W.Frag} (ha : PE X a ta) (hK : X.K = K := by rfl) : PE X (.UnaryOp .Not a pos) (cNot K ta) :=
  hK ▸ imp_e (pe_notT (mono_e ha)) fun σ H Q q => ⟨_, fun x H1 z => (cTru.at z : ∃ k, TruV X.K x H1 k ∧ Q (.bl (!k)) H1), q⟩
theorem pt_truthU {K : PySem.W.Frag} (ha : PE X a ta) (he : ∀ whole, isTrue a X.env whole = (do let v ← whole; standAt a.pos; holding [v] (truthy v))) (hK : X.K = K := by rfl) : PT X a (cTruth K ta) :=
  hK ▸ imp_t (pt_truth (mono_e ha) he) fun σ H Q q => ⟨_, fun x H1 z => (cTru.at z : ∃ k, TruV X.K x H1 k ∧ Q k H1), q⟩
end
/-! ### operators -/
section
variable {X : Cx}
def rAddU (K : PySem.W.Frag) : R2 := fun x y H Q => match x, y with
  | .int i, .int j => Q (.int (i + j)) H
  | .str a, .str b => a.length + b.length ≤ sizeLine ∧ Q (.str (a ++ b)) H
  | .ref a, .ref b => rCat (.ref a) (.ref b) H Q ∨ rCatT K (.ref a) (.ref b) H Q
  | _, _ => False
theorem opU_add {K : PySem.W.Frag} (hK : X.K = K := by rfl) : OpR X (binaryOp .Add) (rAddU K) := hK ▸ imp_o (op_add.or (op_add_str.or (op_cat.or op_catT))) fun x y H Q q => by
  unfold rAddU at q
  split at q
  · exact .inl ⟨_, _, rfl, rfl, q⟩
  · exact .inr (.inl ⟨_, _, rfl, rfl, q.1, q.2⟩)
  · exact .inr (.inr q)
  · exact q.elim
def rSubU : R2 := fun x y H Q => match x, y with
  | .int i, .int j => Q (.int (i - j)) H
  | _, _ => False
theorem opU_sub : OpR X (binaryOp .Sub) rSubU := imp_o op_sub fun x y H Q q => by
  unfold rSubU at q
  split at q
  · exact ⟨_, _, rfl, rfl, q⟩
  · exact q.elim
def rMulU : R2 := fun x y H Q => match x, y with
  | .int i, .int j => (CMul i j ∨ CMulW i j) ∧ Q (.int (i * j)) H
  | .ref a, .int k => rRep (.ref a) (.int k) H Q
  | _, _ => False
theorem opU_mul : OpR X (binaryOp .Mult) rMulU := imp_o (op_mul.or (op_mulW.or op_rep)) fun x y H Q q => by
  unfold rMulU at q
  split at q
  · rcases q.1 with c | c
    · exact .inl ⟨_, _, rfl, rfl, c, q.2⟩
    · exact .inr (.inl ⟨_, _, rfl, rfl, c, q.2⟩)
  · exact .inr (.inr q)
  · exact q.elim
def rModU : R2 := fun x y H Q => match x, y with
  | .int i, .int j => 0 < j ∧ Q (.int (i % j)) H
  | _, _ => False
theorem opU_mod : OpR X (binaryOp .Mod) rModU := imp_o op_mod fun x y H Q q => by
  unfold rModU at q
  split at q
  · exact ⟨_, _, rfl, rfl, q.1, q.2⟩
  · exact q.elim
def rDivU : R2 := fun x y H Q => match x, y with
  | .int i, .int j => CDivW i j ∧ Q (.int (i / j)) H
  | _, _ => False
theorem opU_div : OpR X (binaryOp .FloorDiv) rDivU := imp_o op_fdivW fun x y H Q q => by
  unfold rDivU at q
  split at q
  · exact ⟨_, _, rfl, rfl, q.1, q.2⟩
  · exact q.elim
def rPowU : R2 := fun x y H Q => match x, y with
  | .int i, .int j => CPow i j ∧ Q (.int (i ^ j.toNat)) H
  | _, _ => False
theorem opU_pow : OpR X (binaryOp .Pow) rPowU := imp_o op_pow fun x y H Q q => by
  unfold rPowU at q
  split at q
  · exact ⟨_, _, rfl, rfl, q.1, q.2⟩
  · exact q.elim
def rNegU : V → Hp → VK → Prop := fun x H Q => match x with
  | .int i => Q (.int (-i)) H
  | _ => False
theorem unU_neg : UnR X (unaryOp .USub) rNegU := fun pins s σ H x v Q I rx q => un_neg pins s σ H x v Q I rx (by
  unfold rNegU at q
  split at q
  · exact ⟨_, rfl, q⟩
  · exact q.elim)
/-- order -/
def rOrd (f : Int → Int → Bool) (g : List Nat → List Nat → Bool) : R2 := fun x y H Q => match x, y with
  | .int i, .int j => Q (.bl (f i j)) H
  | .str a, .str b => Q (.bl (g a.cps.toList b.cps.toList)) H
  | _, _ => False
theorem opU_lt : OpR X (compareOp .Lt) (rOrd (fun i j => decide (i < j)) fun a b => decide (a < b)) := imp_o (op_lt.or op_lt_str) fun x y H Q q => by
  unfold rOrd at q
  split at q
  · exact .inl ⟨_, _, rfl, rfl, q⟩
  · exact .inr ⟨_, _, rfl, rfl, q⟩
  · exact q.elim
def rLeU : R2 := fun x y H Q => match x, y with
  | .int i, .int j => Q (.bl (decide (i ≤ j))) H
  | .str a, .str b => Q (.bl (!decide (b.cps.toList < a.cps.toList))) H
  | _, _ => False
theorem opU_le : OpR X (compareOp .LtE) rLeU := imp_o (op_le.or op_le_str) fun x y H Q q => by
  unfold rLeU at q
  split at q
  · exact .inl ⟨_, _, rfl, rfl, q⟩
  · exact .inr ⟨_, _, rfl, rfl, q⟩
  · exact q.elim
def rGtU : R2 := fun x y H Q => match x, y with
  | .int i, .int j => Q (.bl (decide (j < i))) H
  | _, _ => False
theorem opU_gt : OpR X (compareOp .Gt) rGtU := imp_o op_gt fun x y H Q q => by
  unfold rGtU at q
  split at q
  · exact ⟨_, _, rfl, rfl, q⟩
  · exact q.elim
def rGeU : R2 := fun x y H Q => match x, y with
  | .int i, .int j => Q (.bl (decide (j ≤ i))) H
  | _, _ => False
theorem opU_ge : OpR X (compareOp .GtE) rGeU := imp_o op_ge fun x y H Q q => by
  unfold rGeU at q
  split at q
  · exact ⟨_, _, rfl, rfl, q⟩
  · exact q.elim
/-- == -/
def rEqU (K : PySem.W.Frag) : R2 := fun x y H Q => match scal x y with | true => Q (.bl (decide (x = y))) H | false => rEqD K x y H Q
def rNeU (K : PySem.W.Frag) : R2 := fun x y H Q => match scal x y with | true => Q (.bl (!decide (x = y))) H | false => rNeD K x y H Q
theorem roomU {k : Nat} {A : Around} (r : Room k A) : A.units + 64 < cLine := by have := r.un; omega
theorem opU_eq {K : PySem.W.Frag} {k : Nat} (r : Room k X.A) (hK : X.K = K := by rfl) : OpR X (compareOp .Eq) (rEqU K) := hK ▸ imp_o (op_eq.or (op_eqD (roomU r))) fun x y H Q q => by
  unfold rEqU at q
  split at q
  · rename_i e
    exact .inl ⟨e, q⟩
  · exact .inr q
theorem opU_ne {K : PySem.W.Frag} {k : Nat} (r : Room k X.A) (hK : X.K = K := by rfl) : OpR X (compareOp .NotEq) (rNeU K) := hK ▸ imp_o (op_ne.or (op_neD (roomU r))) fun x y H Q q => by
  unfold rNeU at q
  split at q
  · rename_i e
    exact .inl ⟨e, q⟩
  · exact .inr q
def rIsU (n : Bool) : R2 := fun x y H Q => match y with
  | .non => Q (.bl (n != decide (x = .non))) H
  | _ => False
theorem opU_is : OpR X (compareOp .Is) (rIsU false) := imp_o op_isN fun x y H Q q => by
  unfold rIsU at q
  split at q
  · exact ⟨rfl, by simpa using q⟩
  · exact q.elim
theorem opU_isnot : OpR X (compareOp .IsNot) (rIsU true) := imp_o op_notN fun x y H Q q => by
  unfold rIsU at q
  split at q
  · exact ⟨rfl, by simpa using q⟩
  · exact q.elim
/-- in -/
def rInU (K : PySem.W.Frag) (n : Bool) : R2 := fun x y H Q => match y with
  | .str z => (match x with
    | .str s => ∃ c, s = ⟨#[c]⟩ ∧ (match n with | true => Q (.bl (!decide (c ∈ z.cps.toList))) H | false => Q (.bl (decide (c ∈ z.cps.toList))) H)
    | _ => False)
  | .ref p => ∃ xs, (SqL K H p xs ∨ SqT K H p xs) ∧ flatV x = true ∧ xs.all flatV = true ∧ (match n with | true => Q (.bl (!inV x xs)) H | false => Q (.bl (inV x xs)) H)
  | _ => False
theorem opU_in {K : PySem.W.Frag} (hK : X.K = K := by rfl) : OpR X (compareOp .In) (rInU K false) := hK ▸ imp_o (op_in_sign.or op_in_seq) fun x y H Q q => by
  unfold rInU at q
  split at q
  · split at q
    · obtain ⟨c, rfl, q⟩ := q
      exact .inl ⟨c, _, rfl, rfl, q⟩
    · exact q.elim
  · obtain ⟨xs, h1, h2, h3, q⟩ := q
    exact .inr ⟨_, xs, rfl, h1, h2, h3, q⟩
  · exact q.elim
theorem opU_notin {K : PySem.W.Frag} (hK : X.K = K := by rfl) : OpR X (compareOp .NotIn) (rInU K true) := hK ▸ imp_o (op_notIn_sign.or op_notIn_seq) fun x y H Q q => by
  unfold rInU at q
  split at q
  · split at q
    · obtain ⟨c, rfl, q⟩ := q
      exact .inl ⟨c, _, rfl, rfl, q⟩
    · exact q.elim
  · obtain ⟨xs, h1, h2, h3, q⟩ := q
    exact .inr ⟨_, xs, rfl, h1, h2, h3, q⟩
  · exact q.elim
/-- x[i] -/
def rIxU (K : PySem.W.Frag) : R2 := fun x y H Q => match x, y with
  | .str z, .int i => z.length ≤ sizeLine ∧ ∃ c, atI z.cps.toList i = some c ∧ Q (.str ⟨#[c]⟩) H
  | .ref p, .int i => ∃ xs v, (SqL K H p xs ∨ SqT K H p xs) ∧ atI xs i = some v ∧ Q v H
  | _, _ => False
theorem ixU {K : PySem.W.Frag} (hK : X.K = K := by rfl) : IxR X (rIxU K) := by
  subst hK
  intro value slice pins s σ H x y v u Q I rx ry q hs
  refine ix_seq value slice pins s σ H x y v u Q I rx ry ?_ hs
  unfold rIxU at q
  split at q
  · obtain ⟨h1, c, h2, q⟩ := q
    exact .inr (.inr ⟨_, _, c, rfl, rfl, h1, h2, q⟩)
  · obtain ⟨xs, w, h1 | h1, h2, q⟩ := q
    · exact .inl ⟨_, xs, _, w, rfl, rfl, h1, h2, q⟩
    · exact .inr (.inl ⟨_, xs, _, w, rfl, rfl, h1, h2, q⟩)
  · exact q.elim
/-- x[i:j] -/
def rSlU (K : PySem.W.Frag) : V → Option Int → Option Int → Hp → VK → Prop := fun x lo hi H Q => match x with
  | .str z => z.length ≤ sizeLine ∧ Q (.str (cutS z lo hi)) H
  | .ref p => rSlL K (.ref p) lo hi H Q ∨ rSlT K (.ref p) lo hi H Q
  | _ => False
theorem slU {K : PySem.W.Frag} (hK : X.K = K := by rfl) : SlR X (rSlU K) := by
  subst hK
  intro pins s σ H x v vl vu lo hi sl Q I rx hs pl pu q
  refine (sl_str.or (sl_list.or sl_tup)) pins s σ H x v vl vu lo hi sl Q I rx hs pl pu ?_
  unfold rSlU at q
  split at q
  · exact .inl ⟨_, rfl, q.1, q.2⟩
  · exact .inr q
  · exact q.elim
def cPart (t : TE) : TO := fun σ H Q => t σ H fun x H1 => match x with | .int i => Q (some i) H1 | _ => False
theorem imp_po {e : Option Expr} {t t' : TO} (h : PO X e t) (i : ∀ σ H Q, t' σ H Q → t σ H Q) : PO X e t' := ⟨fun pins s σ H Q I q => h.run pins s σ H Q I (i σ H Q q)⟩
theorem po_someU {e : Expr} {t : TE} (h : PE X e t) : PO X (some e) (cPart t) := imp_po (po_some (mono_e h)) fun σ H Q q => ⟨_, fun x H1 z => by
  revert z
  cases x <;> intro z <;> first | exact ⟨_, rfl, z⟩ | exact z.elim, q⟩
/-! ### built-ins -/
def rLenU (K : PySem.W.Frag) : List V → Hp → VK → Prop := fun xs H Q => match xs with
  | [.str z] => z.length ≤ sizeLine ∧ Q (.int z.length) H
  | [.ref p] => (∃ ys, (SqL K H p ys ∨ SqT K H p ys) ∧ Q (.int ys.length) H) ∨ ∃ kvs, H p = some (.dK kvs) ∧ Q (.int kvs.length) H
  | _ => False
theorem callU_len {K : PySem.W.Frag} (hK : X.K = K := by rfl) : CallR X (.builtin "len") (rLenU K) := hK ▸ imp_c (call_len_str.or (call_len_seq.or call_lenD)) fun xs H Q q => by
  unfold rLenU at q
  split at q
  · exact .inl ⟨_, rfl, q.1, q.2⟩
  · rcases q with ⟨ys, h, q⟩ | ⟨kvs, h, q⟩
    · exact .inr (.inl ⟨_, ys, rfl, h, q⟩)
    · exact .inr (.inr ⟨_, kvs, rfl, h, q⟩)
  · exact q.elim
/-- isinstance of a value whose type is known -/
def IsiV (K : PySem.W.Frag) (H : Hp) (x : V) (n : String) (b : Bool) : Prop := ∃ t, TyX K H x t ∧ PySem.W.kitOne K t (.type n) = some b
def rIsiU (K : PySem.W.Frag) : List V → Hp → VK → Prop := fun xs H Q => match xs with
  | [x, .ty n] => ∃ b, IsiV K H x n b ∧ Q (.bl b) H
  | [x, .ref c] => rIsi K [x, .ref c] H Q ∨ rIsiT K [x, .ref c] H Q
  | _ => False
theorem callU_isi {K : PySem.W.Frag} (hK : X.K = K := by rfl) : CallR X (.builtin "isinstance") (rIsiU K) := hK ▸ imp_c (call_isi.or call_isiT) fun xs H Q q => by
  unfold rIsiU at q
  split at q
  · obtain ⟨b, ⟨t, h1, h2⟩, q⟩ := q
    exact .inl ⟨_, _, t, _, b, rfl, .ty _, h1, h2, q⟩
  · exact q
  · exact q.elim
def rIntU : List V → Hp → VK → Prop := fun xs H Q => match xs with
  | [.int i] => Q (.int i) H
  | [.bl k] => Q (.int (if k then 1 else 0)) H
  | [.str a] => ∃ n, PySem.intText? a = some n ∧ a.length ≤ 640 ∧ Q (.int n) H
  | _ => False
theorem callU_int : CallR X (.type "int") rIntU := imp_c (call_int1.or call_int_str) fun xs H Q q => by
  unfold rIntU at q
  split at q
  · exact .inl (.inl ⟨_, rfl, q⟩)
  · exact .inl (.inr ⟨_, rfl, q⟩)
  · obtain ⟨n, h1, h2, q⟩ := q
    exact .inr ⟨_, n, rfl, h1, h2, q⟩
  · exact q.elim
def rStrU : List V → Hp → VK → Prop := fun xs H Q => match xs with
  | [.int i] => i.natAbs.log2 < 1920 ∧ Q (.str (toString i)) H
  | _ => False
theorem callU_str : CallR X (.type "str") rStrU := imp_c call_str_int fun xs H Q q => by
  unfold rStrU at q
  split at q
  · exact ⟨_, rfl, q.1, q.2⟩
  · exact q.elim
def rListU (K : PySem.W.Frag) : List V → Hp → VK → Prop := fun xs H Q => match xs with
  | [.ref p] => (∃ ys, (SqL K H p ys ∨ SqT K H p ys) ∧ ∀ l, H l = none → Q (.ref l) (upd H l (.lst ys))) ∨ ∃ kvs : List (Key × V), H p = some (.dK kvs) ∧ ∀ q, H q = none → Q (.ref q) (upd H q (.lst (kvs.map fun kv => kV kv.1)))
  | _ => False
theorem callU_list {K : PySem.W.Frag} (hc : X.calm = true) (hK : X.K = K := by rfl) : CallR X (.type "list") (rListU K) := hK ▸ imp_c (call_list_of.or (call_list_dK hc)) fun xs H Q q => by
  unfold rListU at q
  split at q
  · rcases q with ⟨ys, h, q⟩ | ⟨kvs, h, q⟩
    · exact .inl ⟨_, ys, rfl, h, q⟩
    · exact .inr ⟨_, kvs, rfl, h, q⟩
  · exact q.elim
def rTupU (K : PySem.W.Frag) : List V → Hp → VK → Prop := fun xs H Q => match xs with
  | [.ref p] => ∃ ys, (SqL K H p ys ∧ ∀ l, H l = none → Q (.ref l) (upd H l (.tup ys))) ∨ (SqT K H p ys ∧ Q (.ref p) H)
  | _ => False
theorem callU_tuple {K : PySem.W.Frag} (hK : X.K = K := by rfl) : CallR X (.type "tuple") (rTupU K) := hK ▸ imp_c call_tuple_of fun xs H Q q => by
  unfold rTupU at q
  split at q
  · obtain ⟨ys, q⟩ := q
    exact ⟨_, ys, rfl, q⟩
  · exact q.elim
def rMin2U : List V → Hp → VK → Prop := fun xs H Q => match xs with
  | [.int i, .int j] => Q (.int (if j < i then j else i)) H
  | _ => False
def rMax2U : List V → Hp → VK → Prop := fun xs H Q => match xs with
  | [.int i, .int j] => Q (.int (if j > i then j else i)) H
  | _ => False
theorem callU_min2 (hc : X.calm = true) : CallR X (.builtin "min") rMin2U := imp_c (call_min2 hc) fun xs H Q q => by
  unfold rMin2U at q
  split at q
  · exact ⟨_, _, rfl, q⟩
  · exact q.elim
theorem callU_max2 (hc : X.calm = true) : CallR X (.builtin "max") rMax2U := imp_c (call_max2 hc) fun xs H Q q => by
  unfold rMax2U at q
  split at q
  · exact ⟨_, _, rfl, q⟩
  · exact q.elim
def rAllU (K : PySem.W.Frag) (f : List Bool → Bool) : List V → Hp → VK → Prop := fun xs H Q => match xs with
  | [.ref a] => ∃ bs : List Bool, SqL K H a (bs.map V.bl) ∧ Q (.bl (f bs)) H
  | _ => False
theorem callU_all {K : PySem.W.Frag} (hc : X.calm = true) (hK : X.K = K := by rfl) : CallR X (.builtin "all") (rAllU K fun bs => bs.all id) := hK ▸ imp_c (cr_all hc) fun xs H Q q => by
  unfold rAllU at q
  split at q
  · obtain ⟨bs, h, q⟩ := q
    exact ⟨_, bs, rfl, h, q⟩
  · exact q.elim
theorem callU_any {K : PySem.W.Frag} (hc : X.calm = true) (hK : X.K = K := by rfl) : CallR X (.builtin "any") (rAllU K fun bs => bs.any id) := hK ▸ imp_c (cr_any hc) fun xs H Q q => by
  unfold rAllU at q
  split at q
  · obtain ⟨bs, h, q⟩ := q
    exact ⟨_, bs, rfl, h, q⟩
  · exact q.elim
/-- xs[i] = v -/
def rSetU : V → V → V → Hp → (Hp → Prop) → Prop := fun o i v H Q => match o, i with
  | .ref p, .int k => ∃ xs j, H p = some (.lst xs) ∧ ixN xs.length k = some j ∧ Q (upd H p (.lst (xs.set j v)))
  | _, _ => False
theorem setU : PSet X rSetU := by
  intro pins s σ H o i v ov iv u Q I ro ri rv h
  refine set_list pins s σ H o i v ov iv u Q I ro ri rv ?_
  unfold rSetU at h
  split at h
  · obtain ⟨xs, j, h1, h2, q⟩ := h
    exact ⟨_, xs, _, j, rfl, rfl, h1, h2, q⟩
  · exact h.elim
end
/-! ### the rest with the written part told -/
section
variable {X : Cx} {K : PySem.W.Frag}
theorem pe_ty {x : Str} {pos : Pos} (n : String) (hm : X.mg x = none) (hv : bootBuiltins x = some (.type n) := by decide +kernel) (hg : Gl X x := by rfl) (hn : x ≠ "__name__" := by decide) (hd : (x == ("__debug__" : Str)) = false := by decide) : PE X (.Name x pos) (tC (.ty n)) :=
  pe_bltn hg hm hv rfl hn hd
theorem pi_listK {tg l : Expr} {tl : TE} (hl : PE X l tl) (hK : X.K = K := by rfl) : PI X tg l (iList K tl) := hK ▸ pi_list hl
theorem pi_tupK {tg l : Expr} {tl : TE} (hl : PE X l tl) (hK : X.K = K := by rfl) : PI X tg l (iTup K tl) := hK ▸ pi_tup hl
theorem pg_tupK {es : List Expr} {k : Nat} {t : TGs} {n : Nat} {pos : Pos} (hc : X.calm = true) (h : PGs X es t)
    (hn : (assignEach es X.env).length = n := by rfl) (hst : (assignEach es X.env).findIdx? (·.1) = none := by rfl) (hK : X.K = K := by rfl) : PG X (.Tuple es k pos) (gTup K n t) := hK ▸ pg_tup hc h hn hst
theorem pe_fldK {e : Expr} {f : Str} {ta : TE} {pos : Pos} (he : PE X e ta) (hb : attributeBase e f X.env (eval e X.env) = eval e X.env) (hK : X.K = K := by rfl) : PE X (.Attribute e f pos) (tFld K ta f) := hK ▸ pe_fld he hb
end
/-! ### defs -/
structure Ok (P : Program) (w : World) (K : PySem.W.Frag) (mg : Str → Option Value) (base : Heap) (k : Nat) (x : Str) (ps : List Str) (sp : Sp) : Prop where
  ex : ∃ f fd, mg x = some (.ref f) ∧ PySem.W.keepIn K (.ref f) = true ∧ Binds K fd ps [] ∧ FnOk P w K mg base (L2.CX P w) k f fd ps sp
structure FnAt (K : PySem.W.Frag) (mg : Str → Option Value) (x qual : Str) (st : Stmt) (ps : List Str) : Prop where
  ex : ∃ f fd, mg x = some (.ref f) ∧ Fun K x qual st f fd ∧ Binds K fd ps []
theorem okF {P : Program} {w : World} {K : PySem.W.Frag} {mg : Str → Option Value} {base : Heap} {x qual : Str} {st : Stmt} {N ps : List Str} {k : Nat} {sp : Sp} (F : FnAt K mg x qual st ps) (S : FnScope N ps (defScope st)) (len : ∀ vs H Q E, sp vs H Q E → vs.length = ps.length)
    (hbody : ∀ (f : Addr) (cdv : Value) (A : Around) (outer : List Env) (s : Shared) (H : Hp) (vs : List V) (Q : VK) (E : XK), Room k (A.deeper (envOfC qual (defScope st) s.heap.objs.size f cdv)) → sp vs H Q E →
      ∃ t, PSs (cxOf (L2.CX P w) P w K mg base N qual (defScope st) f cdv A outer s H (bE H E)) (defBody st) t ∧ t { nx := fun _ H' => bQ H Q .non H', rt := bQ H Q } (start N vs) H) : Ok P w K mg base (k + 1) x ps sp := by
  obtain ⟨f, fd, h1, h2, h3⟩ := F.ex
  exact ⟨f, fd, h1, h2.kp, h3, okX h2 S len (hbody f)⟩
section
variable {X : Cx} {k j : Nat} {x : Str} {ps : List Str} {sp : Sp} {E : XK} {p pos : Pos} {e : Expr} {es : List Expr} {t : TA}
def cCall (sp : Sp) (E : XK) (t : TA) : TE := fun σ H Q => t σ H fun vs H1 => sp vs H1 Q E
theorem pe_f (O : Ok X.prog X.w X.K X.mg X.base k x ps sp) (hr : Room k X.A) (hx : Passes (L2.CX X.prog X.w) X E) (ha : PA X (e :: es) t) (hg : Gl X x := by rfl)
    (hdb : (x == ("__debug__" : Str)) = false := by decide) (he : starEach (e :: es) X.env = (false, eval e X.env) :: starEach es X.env := by rfl) (hpl : (backTo pos (starEach es X.env)).any (·.1) = false := by rfl) :
    PE X (.Call (.Name x p) (e :: es) [] pos) (cCall sp E t) := by
  obtain ⟨f, fd, h1, h2, h3, F⟩ := O.ex
  have ha' : PA X (e :: es) (fun σ H Q => ∃ Q0 : List V → Hp → Prop, (∀ v H', Q0 v H' → Q v H') ∧ t σ H Q0) := ⟨fun pos pins s σ H Q I q => by
    obtain ⟨Q0, w, z⟩ := q
    exact thn (ha.run pos pins s σ H Q0 I z) fun u s1 ⟨v, H1, I1, r, q1⟩ => ⟨v, H1, I1, r, w v H1 q1⟩⟩
  refine imp_e (pe_call F hr hg h1 h2 h3 .nil hx ha' hdb he hpl) fun σ H Q q => ⟨_, fun vs H1 z => ?_, q⟩
  show sp (vs ++ []) H1 Q E
  rw [List.append_nil]
  exact z
theorem pe_f0 (O : Ok X.prog X.w X.K X.mg X.base k x ps sp) (hr : Room k X.A) (hx : Passes (L2.CX X.prog X.w) X E) (hg : Gl X x := by rfl)
    (hdb : (x == ("__debug__" : Str)) = false := by decide) : PE X (.Call (.Name x p) [] [] pos) (cCall sp E tNil) := by
  obtain ⟨f, fd, h1, h2, h3, F⟩ := O.ex
  exact imp_e (pe_call0 F hr hg h1 h2 h3 .nil hx hdb) fun σ H Q q => q
end
end R
namespace R
open PySem PySem.Spec PyProof.Rows L2
/-! ### arguments by their number -/
def arg1 (R : V → Prop) : List V → Prop | [a] => R a | _ => False
def arg2 (R : V → V → Prop) : List V → Prop | [a, b] => R a b | _ => False
def arg3 (R : V → V → V → Prop) : List V → Prop | [a, b, c] => R a b c | _ => False
def arg4 (R : V → V → V → V → Prop) : List V → Prop | [a, b, c, d] => R a b c d | _ => False
def arg5 (R : V → V → V → V → V → Prop) : List V → Prop | [a, b, c, d, e] => R a b c d e | _ => False
theorem arg1.ex {R : V → Prop} : ∀ {vs : List V}, arg1 R vs → ∃ a, vs = [a] ∧ R a
  | [a], h => ⟨a, rfl, h⟩
  | [], h => h.elim
  | _ :: _ :: _, h => h.elim
theorem arg2.ex {R : V → V → Prop} : ∀ {vs : List V}, arg2 R vs → ∃ a b, vs = [a, b] ∧ R a b
  | [a, b], h => ⟨a, b, rfl, h⟩
  | [], h => h.elim
  | [_], h => h.elim
  | _ :: _ :: _ :: _, h => h.elim
theorem arg3.ex {R : V → V → V → Prop} : ∀ {vs : List V}, arg3 R vs → ∃ a b c, vs = [a, b, c] ∧ R a b c
  | [a, b, c], h => ⟨a, b, c, rfl, h⟩
  | [], h => h.elim
  | [_], h => h.elim
  | [_, _], h => h.elim
  | _ :: _ :: _ :: _ :: _, h => h.elim
theorem arg4.ex {R : V → V → V → V → Prop} : ∀ {vs : List V}, arg4 R vs → ∃ a b c d, vs = [a, b, c, d] ∧ R a b c d
  | [a, b, c, d], h => ⟨a, b, c, d, rfl, h⟩
  | [], h => h.elim
  | [_], h => h.elim
  | [_, _], h => h.elim
  | [_, _, _], h => h.elim
  | _ :: _ :: _ :: _ :: _ :: _, h => h.elim
theorem arg5.ex {R : V → V → V → V → V → Prop} : ∀ {vs : List V}, arg5 R vs → ∃ a b c d e, vs = [a, b, c, d, e] ∧ R a b c d e
  | [a, b, c, d, e], h => ⟨a, b, c, d, e, rfl, h⟩
  | [], h => h.elim
  | [_], h => h.elim
  | [_, _], h => h.elim
  | [_, _, _], h => h.elim
  | [_, _, _, _], h => h.elim
  | _ :: _ :: _ :: _ :: _ :: _ :: _, h => h.elim
def arg6 (R : V → V → V → V → V → V →  Prop) : List V → Prop | [a, b, c, d, e, f] => R a b c d e f | _ => False
theorem arg6.ex {R : V → V → V → V → V → V →  Prop} : ∀ {vs : List V}, arg6 R vs → ∃ a b c d e f, vs = [a, b, c, d, e, f] ∧ R a b c d e f
  | [a, b, c, d, e, f], h => ⟨a, b, c, d, e, f, rfl, h⟩
  | [], h => h.elim
  | [_], h => h.elim
  | [_, _], h => h.elim
  | [_, _, _], h => h.elim
  | [_, _, _, _], h => h.elim
  | [_, _, _, _, _], h => h.elim
  | _ :: _ :: _ :: _ :: _ :: _ :: _ :: _, h => h.elim
def arg7 (R : V → V → V → V → V → V → V →  Prop) : List V → Prop | [a, b, c, d, e, f, g] => R a b c d e f g | _ => False
theorem arg7.ex {R : V → V → V → V → V → V → V →  Prop} : ∀ {vs : List V}, arg7 R vs → ∃ a b c d e f g, vs = [a, b, c, d, e, f, g] ∧ R a b c d e f g
  | [a, b, c, d, e, f, g], h => ⟨a, b, c, d, e, f, g, rfl, h⟩
  | [], h => h.elim
  | [_], h => h.elim
  | [_, _], h => h.elim
  | [_, _, _], h => h.elim
  | [_, _, _, _], h => h.elim
  | [_, _, _, _, _], h => h.elim
  | [_, _, _, _, _, _], h => h.elim
  | _ :: _ :: _ :: _ :: _ :: _ :: _ :: _ :: _, h => h.elim
def arg8 (R : V → V → V → V → V → V → V → V →  Prop) : List V → Prop | [a, b, c, d, e, f, g, h] => R a b c d e f g h | _ => False
theorem arg8.ex {R : V → V → V → V → V → V → V → V →  Prop} : ∀ {vs : List V}, arg8 R vs → ∃ a b c d e f g h, vs = [a, b, c, d, e, f, g, h] ∧ R a b c d e f g h
  | [a, b, c, d, e, f, g, h], hyp => ⟨a, b, c, d, e, f, g, h, rfl, hyp⟩
  | [], h => h.elim
  | [_], h => h.elim
  | [_, _], h => h.elim
  | [_, _, _], h => h.elim
  | [_, _, _, _], h => h.elim
  | [_, _, _, _, _], h => h.elim
  | [_, _, _, _, _, _], h => h.elim
  | [_, _, _, _, _, _, _], h => h.elim
  | _ :: _ :: _ :: _ :: _ :: _ :: _ :: _ :: _ :: _, h => h.elim
def arg9 (R : V → V → V → V → V → V → V → V → V →  Prop) : List V → Prop | [a, b, c, d, e, f, g, h, i] => R a b c d e f g h i | _ => False
theorem arg9.ex {R : V → V → V → V → V → V → V → V → V →  Prop} : ∀ {vs : List V}, arg9 R vs → ∃ a b c d e f g h i, vs = [a, b, c, d, e, f, g, h, i] ∧ R a b c d e f g h i
  | [a, b, c, d, e, f, g, h, i], hyp => ⟨a, b, c, d, e, f, g, h, i, rfl, hyp⟩
  | [], h => h.elim
  | [_], h => h.elim
  | [_, _], h => h.elim
  | [_, _, _], h => h.elim
  | [_, _, _, _], h => h.elim
  | [_, _, _, _, _], h => h.elim
  | [_, _, _, _, _, _], h => h.elim
  | [_, _, _, _, _, _, _], h => h.elim
  | [_, _, _, _, _, _, _, _], h => h.elim
  | _ :: _ :: _ :: _ :: _ :: _ :: _ :: _ :: _ :: _ :: _, h => h.elim
/-! ### heaps -/
theorem same_new {H : Hp} {p : Addr} {o : HO} (h : H p = none) : Same H (upd H p o) := fun b u e => by
  rw [upd_ne (ne_of_none e h)]
  exact e
theorem Wf.set {H : Hp} {p : Addr} {o : HO} (w : Wf H) (f : Flat o) (h : ∀ x, H p ≠ some (.own x)) : Wf (upd H p o) := fun a u e => by
  by_cases ha : a = p
  · subst ha
    rw [upd_same] at e
    cases e
    exact .inl f
  · rw [upd_ne ha] at e
    rcases w a u e with q | ⟨C, dx, fs, rfl, hd⟩
    · exact .inl q
    · refine .inr ⟨C, dx, fs, rfl, ?_⟩
      rw [upd_ne (fun z => h a (by rw [← z]; exact hd))]
      exact hd
theorem Wf.new {H : Hp} {p : Addr} {o : HO} (w : Wf H) (f : Flat o) (h : H p = none) : Wf (upd H p o) := w.set f fun x z => by rw [h] at z; cases z
theorem Wf.at {H : Hp} {p : Addr} {o u : HO} (w : Wf H) (f : Flat o) (h : H p = some u) (hu : ∀ x, u ≠ .own x) : Wf (upd H p o) := w.set f fun x z => by
  rw [h] at z
  exact hu x (Option.some.inj z)
theorem bQ.same {H H' : Hp} {Q : VK} {v : V} (w : Wf H) (s : Same H H') (q : Q v H) : bQ H Q v H' := ⟨H, ⟨s, fun a o e => by rw [e, s a o e], w⟩, q⟩
/-! ### a list of two numbers from which digits are drawn -/
def stL (p q : Int) : HO := .lst [.int p, .int q]
/-- it stands at a, its first number not below nought -/
def St2 (H : Hp) (a : Addr) : Prop := ∃ p q, H a = some (stL p q) ∧ 0 ≤ p
/-- all but it is as it was -/
structure Dr (a : Addr) (H H' : Hp) : Prop where
  kp : ∀ b o, b ≠ a → H b = some o → H' b = some o
  st : St2 H' a
  wf : Wf H'
theorem Dr.refl {a : Addr} {H : Hp} (s : St2 H a) (w : Wf H) : Dr a H H := ⟨fun _ _ _ h => h, s, w⟩
theorem Dr.trans {a : Addr} {H H1 H2 : Hp} (x : Dr a H H1) (y : Dr a H1 H2) : Dr a H H2 := ⟨fun b o n e => y.kp b o n (x.kp b o n e), y.st, y.wf⟩
theorem Dr.drawn {a : Addr} {H H1 : Hp} {p q : Int} (x : Dr a H H1) (h : 0 ≤ p) : Dr a H (upd H1 a (stL p q)) := by
  obtain ⟨p0, q0, e, _⟩ := x.st
  refine ⟨fun b o n e => ?_, ⟨p, q, upd_same, h⟩, x.wf.at trivial e fun x z => by cases z⟩
  rw [upd_ne n]
  exact x.kp b o n e
theorem Dr.new {a p : Addr} {o : HO} {H H1 : Hp} (x : Dr a H H1) (h : H1 p = none) (f : Flat o) : Dr a H (upd H1 p o) := by
  obtain ⟨p0, q0, e, h0⟩ := x.st
  refine ⟨fun b u n e => ?_, ⟨p0, q0, ?_, h0⟩, x.wf.new f h⟩
  · have q := x.kp b u n e
    rw [upd_ne (ne_of_none q h)]
    exact q
  · rw [upd_ne (ne_of_none e h)]
    exact e
theorem Dr.done {a : Addr} {H H' : Hp} {Q : VK} {v : V} (x : Dr a H H') (w : Wf H) (s : St2 H a) (q : ∀ p q, 0 ≤ p → Q v (upd H a (stL p q))) : bQ H Q v H' := by
  obtain ⟨p, q0, e, h⟩ := x.st
  obtain ⟨p1, q1, e1, _⟩ := s
  refine ⟨upd H a (stL p q0), ⟨fun b o z => ?_, fun b o z => ?_, w.at trivial e1 fun x z => by cases z⟩, q p q0 h⟩
  · by_cases hb : b = a
    · subst hb
      rw [upd_same] at z
      rw [e, z]
    · rw [upd_ne hb] at z
      exact x.kp b o hb z
  · by_cases hb : b = a
    · subst hb
      rw [upd_same, e]
    · rw [upd_ne hb, z, x.kp b o hb z]
theorem Dr.at {a b : Addr} {o : HO} {H H' : Hp} (x : Dr a H H') (h : H b = some o) (n : ∀ p q, o ≠ stL p q) (s : St2 H a) : H' b = some o := by
  obtain ⟨p, q, e, _⟩ := s
  exact x.kp b o (fun z => by subst z; rw [h] at e; exact n p q (Option.some.inj e)) h
/-- a place in a list, a text -/
theorem at_lt {α : Type} {xs : List α} {i : Int} (h0 : 0 ≤ i) (h1 : i < xs.length) : ∃ v, atI xs i = some v ∧ v ∈ xs := by
  obtain ⟨j, rfl⟩ : ∃ j : Nat, i = j := ⟨i.toNat, by omega⟩
  have hj : j < xs.length := by omega
  exact ⟨xs[j], atI_nat (List.getElem?_eq_getElem hj), List.getElem_mem hj⟩
theorem line_of {n : Nat} (h : n ≤ 16777216) : n ≤ sizeLine := by rw [sizeLine_eq]; exact h
theorem line_lt {n : Nat} (h : n < 16777216) : n < sizeLine := by rw [sizeLine_eq]; exact h
/-! ### types of values -/
def Known (K : PySem.W.Frag) (H : Hp) (v : V) : Prop := match v with
  | .non => True
  | .bl _ => True
  | .int _ => True
  | .str _ => True
  | .ref p => (∃ xs, H p = some (.lst xs)) ∨ (∃ xs, H p = some (.tup xs)) ∨ ∃ kvs, H p = some (.dK kvs)
  | _ => False
def isStr : V → Bool | .str _ => true | _ => false
def isInt : V → Bool | .int _ => true | .bl _ => true | _ => false
def isBl : V → Bool | .bl _ => true | _ => false
section
variable {K : PySem.W.Frag} {H : Hp}
theorem isi_ty {x : V} {n m : String} {b : Bool} (h : TyX K H x (.type n)) (e : kitB n m = some b) : IsiV K H x m b := ⟨_, h, kit_ty e⟩
theorem isi_str : ∀ {v : V}, Known K H v → IsiV K H v "str" (isStr v)
  | .non, _ => isi_ty (b := false) (.base .non) (by decide +kernel)
  | .bl _, _ => isi_ty (b := false) (.base (.bl _)) (by decide +kernel)
  | .int _, _ => isi_ty (b := false) (.base (.int _)) (by decide +kernel)
  | .str _, _ => isi_ty (b := true) (.base (.str _)) (by decide +kernel)
  | .ref _, .inl ⟨_, h⟩ => isi_ty (b := false) (.base (.lst h)) (by decide +kernel)
  | .ref _, .inr (.inl ⟨_, h⟩) => isi_ty (b := false) (.base (.tup h)) (by decide +kernel)
  | .ref _, .inr (.inr ⟨_, h⟩) => isi_ty (b := false) (.base (.dK h)) (by decide +kernel)
theorem isi_int : ∀ {v : V}, Known K H v → IsiV K H v "int" (isInt v)
  | .non, _ => isi_ty (b := false) (.base .non) (by decide +kernel)
  | .bl _, _ => isi_ty (b := true) (.base (.bl _)) (by decide +kernel)
  | .int _, _ => isi_ty (b := true) (.base (.int _)) (by decide +kernel)
  | .str _, _ => isi_ty (b := false) (.base (.str _)) (by decide +kernel)
  | .ref _, .inl ⟨_, h⟩ => isi_ty (b := false) (.base (.lst h)) (by decide +kernel)
  | .ref _, .inr (.inl ⟨_, h⟩) => isi_ty (b := false) (.base (.tup h)) (by decide +kernel)
  | .ref _, .inr (.inr ⟨_, h⟩) => isi_ty (b := false) (.base (.dK h)) (by decide +kernel)
theorem isi_bool : ∀ {v : V}, Known K H v → IsiV K H v "bool" (isBl v)
  | .non, _ => isi_ty (b := false) (.base .non) (by decide +kernel)
  | .bl _, _ => isi_ty (b := true) (.base (.bl _)) (by decide +kernel)
  | .int _, _ => isi_ty (b := false) (.base (.int _)) (by decide +kernel)
  | .str _, _ => isi_ty (b := false) (.base (.str _)) (by decide +kernel)
  | .ref _, .inl ⟨_, h⟩ => isi_ty (b := false) (.base (.lst h)) (by decide +kernel)
  | .ref _, .inr (.inl ⟨_, h⟩) => isi_ty (b := false) (.base (.tup h)) (by decide +kernel)
  | .ref _, .inr (.inr ⟨_, h⟩) => isi_ty (b := false) (.base (.dK h)) (by decide +kernel)
end
end R
namespace R
open PySem PySem.Spec PyProof.Rows L2
theorem iteP {p : Prop} [Decidable p] {A B : Prop} (h : p) (a : A) : if decide p = true then A else B := by
  rw [if_pos (decide_eq_true h)]
  exact a
theorem iteN {p : Prop} [Decidable p] {A B : Prop} (h : ¬ p) (b : B) : if decide p = true then A else B := by
  rw [if_neg (by rw [decide_eq_false h]; exact Bool.false_ne_true)]
  exact b
theorem iteC {p : Prop} [Decidable p] {A B : Prop} (a : p → A) (b : ¬ p → B) : if decide p = true then A else B := by
  by_cases h : p
  · exact iteP h (a h)
  · exact iteN h (b h)
/-- a comprehension without tests whose element changes nothing -/
theorem lc_map {J : It} {n : Nat} {G : Hp → Prop} {Y : Nat → Hp → V → Hp → Prop} (w : Walk J n G Y) (It' : Nat → V → Prop) (hy : ∀ i H x H', Y i H x H' → H' = H ∧ It' i x) (f : Nat → V) {g : TG} {te : TE} {vs : List Nat} {σ : L2.St} {H1 : Hp} {D : Addr} {Qd : Hp → Prop}
    (hn : n < sizeLine) (hG : ∀ o, G (upd H1 D o))
    (hs : ∀ (i : Nat) (x : V) (acc : List V) (C : V → Hp → Prop), i < n → It' i x → C (f i) (upd H1 D (.lst acc)) → g x (wipe σ vs) (upd H1 D (.lst acc)) fun σ2 H2 => wipe σ2 vs = wipe σ vs ∧ te σ2 H2 C)
    (hd : Qd (upd H1 D (.lst ((List.range n).map f)))) :
    ∃ W : Nat → Nat → Hp → Prop, (∃ m, W 0 m (upd H1 D (.lst []))) ∧ ∀ i m H, W i m H →
      (J.stop i H ∧ Qd H) ∨ (J.go i H ∧ ∃ Nx : Hp → Prop, (∀ H', Nx H' → ∃ m', m' < m ∧ W (i + 1) m' H') ∧ ∀ x H', J.yld i H x H' → g x (wipe σ vs) H' fun σ2 H2 => wipe σ2 vs = wipe σ vs ∧ tYes σ2 H2 fun b H3 =>
        if b = true then te σ2 H3 fun y H4 => ∃ acc, H4 D = some (.lst acc) ∧ acc.length < sizeLine ∧ Nx (upd H4 D (.lst (acc ++ [y]))) else Nx H3) := by
  refine ⟨fun i m H => m = n - i ∧ i ≤ n ∧ H = upd H1 D (.lst ((List.range i).map f)), ⟨n, by simp, Nat.zero_le _, rfl⟩, ?_⟩
  rintro i m H ⟨rfl, hi, rfl⟩
  by_cases hlt : i < n
  · refine .inr ⟨w.goes i _ hlt (hG _), fun H' => H' = upd H1 D (.lst ((List.range (i + 1)).map f)), fun H' e => ⟨n - (i + 1), by omega, rfl, hlt, e⟩, fun x H' y => ?_⟩
    obtain ⟨rfl, hx⟩ := hy _ _ _ _ (w.yields i _ x H' hlt (hG _) y)
    refine hs i x _ (fun y H4 => ∃ acc, H4 D = some (.lst acc) ∧ acc.length < sizeLine ∧ upd H4 D (.lst (acc ++ [y])) = upd H1 D (.lst ((List.range (i + 1)).map f))) hlt hx ⟨_, upd_same, ?_, ?_⟩
    · rw [List.length_map, List.length_range]
      exact Nat.lt_trans hlt hn
    · rw [upd_upd, List.range_succ, List.map_append]
      rfl
  · have e : i = n := by omega
    subst e
    exact .inl ⟨w.stops _ (hG _), hd⟩
theorem range_getD {α β : Type} (l : List α) (d : α) (f : α → β) : (List.range l.length).map (fun i => f (l.getD i d)) = l.map f := by
  apply List.ext_getElem
  · simp
  · intro i h1 h2
    simp at h1 h2 ⊢
    simp [List.getElem?_eq_getElem h1]
end R
namespace R
theorem iteB {c : Bool} {A B : Prop} (a : c = true → A) (b : c = false → B) : if c = true then A else B := by
  cases c with
  | true => rw [if_pos rfl]; exact a rfl
  | false => rw [if_neg Bool.false_ne_true]; exact b rfl
theorem nd_t {p : Prop} [Decidable p] (h : (!decide p) = true) : ¬ p := by simpa using h
theorem nd_f {p : Prop} [Decidable p] (h : (!decide p) = false) : p := by simpa using h
end R
namespace R
open PySem PySem.Spec PyProof.Rows L2
/-- a comprehension with tests whose parts change nothing -/
theorem lc_filt {J : It} {n : Nat} {G : Hp → Prop} {Y : Nat → Hp → V → Hp → Prop} (w : Walk J n G Y) (It' : Nat → V → Prop) (hy : ∀ i H x H', Y i H x H' → H' = H ∧ It' i x) (f : Nat → V) (p : Nat → Bool) {g : TG} {tt : TT} {te : TE} {vs : List Nat} {σ : L2.St} {H1 : Hp} {D : Addr} {Qd : Hp → Prop}
    (hn : n < sizeLine) (hG : ∀ o, G (upd H1 D o))
    (hs : ∀ (i : Nat) (x : V) (acc : List V) (C : V → Hp → Prop) (Cn : Hp → Prop), i < n → It' i x → (p i = true → C (f i) (upd H1 D (.lst acc))) → (p i = false → Cn (upd H1 D (.lst acc))) →
      g x (wipe σ vs) (upd H1 D (.lst acc)) fun σ2 H2 => wipe σ2 vs = wipe σ vs ∧ tt σ2 H2 fun b H3 => if b = true then te σ2 H3 C else Cn H3)
    (hd : Qd (upd H1 D (.lst (((List.range n).filter p).map f)))) :
    ∃ W : Nat → Nat → Hp → Prop, (∃ m, W 0 m (upd H1 D (.lst []))) ∧ ∀ i m H, W i m H →
      (J.stop i H ∧ Qd H) ∨ (J.go i H ∧ ∃ Nx : Hp → Prop, (∀ H', Nx H' → ∃ m', m' < m ∧ W (i + 1) m' H') ∧ ∀ x H', J.yld i H x H' → g x (wipe σ vs) H' fun σ2 H2 => wipe σ2 vs = wipe σ vs ∧ tt σ2 H2 fun b H3 =>
        if b = true then te σ2 H3 fun y H4 => ∃ acc, H4 D = some (.lst acc) ∧ acc.length < sizeLine ∧ Nx (upd H4 D (.lst (acc ++ [y]))) else Nx H3) := by
  refine ⟨fun i m H => m = n - i ∧ i ≤ n ∧ H = upd H1 D (.lst (((List.range i).filter p).map f)), ⟨n, by simp, Nat.zero_le _, rfl⟩, ?_⟩
  rintro i m H ⟨rfl, hi, rfl⟩
  by_cases hlt : i < n
  · refine .inr ⟨w.goes i _ hlt (hG _), fun H' => H' = upd H1 D (.lst (((List.range (i + 1)).filter p).map f)), fun H' e => ⟨n - (i + 1), by omega, rfl, hlt, e⟩, fun x H' y => ?_⟩
    obtain ⟨rfl, hx⟩ := hy _ _ _ _ (w.yields i _ x H' hlt (hG _) y)
    refine hs i x _ (fun y H4 => ∃ acc, H4 D = some (.lst acc) ∧ acc.length < sizeLine ∧ upd H4 D (.lst (acc ++ [y])) = upd H1 D (.lst (((List.range (i + 1)).filter p).map f))) _ hlt hx (fun hp => ⟨_, upd_same, ?_, ?_⟩) (fun hp => ?_)
    · rw [List.length_map]
      refine Nat.lt_of_le_of_lt (List.length_filter_le _ _) ?_
      rw [List.length_range]
      exact Nat.lt_trans hlt hn
    · rw [upd_upd, List.range_succ, List.filter_append, List.map_append, List.filter_cons_of_pos hp]
      rfl
    · rw [List.range_succ, List.filter_append, List.filter_cons_of_neg (by rw [hp]; exact Bool.false_ne_true)]
      simp
  · have e : i = n := by omega
    subst e
    exact .inl ⟨w.stops _ (hG _), hd⟩
theorem filt_getD {α β : Type} (l : List α) (d : α) (q : α → Bool) (f : α → β) : ((List.range l.length).filter fun i => q (l.getD i d)).map (fun i => f (l.getD i d)) = (l.filter q).map f := by
  have h : (List.range l.length).map (fun i => l.getD i d) = l := by
    have := range_getD l d id
    simpa using this
  have h2 : ((List.range l.length).filter fun i => q (l.getD i d)).map (fun i => l.getD i d) = l.filter q := by
    conv => rhs; rw [← h]
    rw [List.filter_map]
    rfl
  rw [← h2, List.map_map]
  rfl
theorem joinL_nil : ∀ ps : List (List Nat), TL.joinL [] ps = ps.flatten
  | [] => rfl
  | [p] => by simp [TL.joinL]
  | p :: q :: r => by
    show p ++ ([] ++ TL.joinL [] (q :: r)) = _
    rw [joinL_nil (q :: r)]
    rfl
theorem join_ones (cs : List Nat) : Txt.join (⟨#[]⟩ : Str) (cs.map fun c => (⟨#[c]⟩ : Str)) = ⟨cs.toArray⟩ := by
  have e : ∀ cs : List Nat, (cs.map fun c => [c]).flatten = cs := fun cs => by
    induction cs with
    | nil => rfl
    | cons c r ih =>
      rw [List.map_cons, List.flatten_cons, ih]
      rfl
  have h := SX.join_S [] (cs.map fun c => [c])
  rw [joinL_nil, List.map_map, e] at h
  exact h
theorem dp_strs {K : PySem.W.Frag} {H : Hp} : ∀ zs : List Str, DpAll K H (zs.map V.str) (zs.map PyData.str)
  | [] => .nil
  | z :: zs => .cons (.str z) (dp_strs zs)
theorem dp_ints {K : PySem.W.Frag} {H : Hp} : ∀ zs : List Int, DpAll K H (zs.map V.int) (zs.map PyData.int)
  | [] => .nil
  | z :: zs => .cons (.int z) (dp_ints zs)
end R
namespace R
open PySem PySem.Spec PyProof.Rows L2
theorem Dr.put {a D : Addr} {o u : HO} {H H1 : Hp} (x : Dr a H H1) (hD : H D = none) (e : H1 D = some u) (nu : ∀ x, u ≠ .own x) (f : Flat o) (n : D ≠ a) : Dr a H (upd H1 D o) := by
  obtain ⟨p0, q0, e0, h0⟩ := x.st
  refine ⟨fun b z nb eb => ?_, ⟨p0, q0, ?_, h0⟩, x.wf.at f e nu⟩
  · rw [upd_ne (ne_of_none eb hD)]
    exact x.kp b z nb eb
  · rw [upd_ne n.symm]
    exact e0
end R
namespace R
open PySem PySem.Spec PyProof.Rows L2
abbrev sOk (z : Str) : Prop := PyData.strOk z = true
theorem sOk_iff {z : Str} : sOk z ↔ ∀ c ∈ z.cps.toList, c < 0x110000 := by
  unfold sOk PyData.strOk
  rw [← Array.all_toList, List.all_eq_true]
  simp
theorem sOk_app {x y : Str} (h : sOk x) (g : sOk y) : sOk (x ++ y) := by
  rw [sOk_iff] at h g ⊢
  intro c hc
  have e := TL.tl_append x y
  have hc' : c ∈ TL.tl (x ++ y) := hc
  rw [e, List.mem_append] at hc'
  rcases hc' with q | q
  · exact h c q
  · exact g c q
theorem sOk_cut {z : Str} {lo hi : Option Int} (h : sOk z) : sOk (cutS z lo hi) := by
  rw [sOk_iff] at h ⊢
  intro c hc
  refine h c ?_
  have hc' : c ∈ (z.cps.toList.drop (HT.sIx z.length 0 lo)).take (HT.sIx z.length z.length hi - HT.sIx z.length 0 lo) := hc
  exact List.mem_of_mem_drop (List.mem_of_mem_take hc')
theorem sOk_list {cs : List Nat} (h : ∀ c ∈ cs, c < 0x110000) : sOk ⟨cs.toArray⟩ := sOk_iff.mpr (by simpa using h)
theorem sOk_one {c : Nat} (h : c < 0x110000) : sOk ⟨#[c]⟩ := sOk_list (cs := [c]) (by simpa using h)
theorem shape_strs {zs : List Str} (h : ∀ z ∈ zs, sOk z) : SeqAt.shaped (.list (zs.map .str)) = true := by
  have h1 : PyData.canLayAll0 (zs.map .str) = true := by
    induction zs with
    | nil => rfl
    | cons z r ih =>
      show (PyData.canLay0 (.str z) && PyData.canLayAll0 (r.map .str)) = true
      rw [ih fun y hy => h y (List.mem_cons_of_mem _ hy), Bool.and_true]
      exact h z List.mem_cons_self
  have h2 : PyData.depthAll (zs.map .str) = 0 := by
    clear h h1
    induction zs with
    | nil => rfl
    | cons z r ih =>
      show max 0 (PyData.depthAll (r.map .str)) = 0
      rw [ih]
      rfl
  unfold SeqAt.shaped
  show (PyData.canLayAll0 (zs.map .str) && decide (PyData.depthAll (zs.map .str) + 1 ≤ 64)) = true
  rw [h1, h2]
  rfl
/-- what behind a statement is wanted, told first -/
def sCut (t : TS) : TS := fun D σ H => ∃ P : L2.St → Hp → Prop, t { D with nx := P } σ H ∧ ∀ σ' H', P σ' H' → D.nx σ' H'
theorem ps_cut {X : Cx} {b : Stmt} {t : TS} (h : PS X b t) : PS X b (sCut t) := ⟨fun pins s σ H D I q => by
  obtain ⟨P, q1, q2⟩ := q
  refine thn (h.run pins s σ H _ I q1) fun f s1 z => ?_
  cases f with
  | next =>
    obtain ⟨σ', H', I', q⟩ := z
    exact ⟨σ', H', I', q2 _ _ q⟩
  | brk => exact z
  | cont => exact z
  | ret u => exact z⟩
/-- the same of a value -/
def eCut (t : TE) : TE := fun σ H Q => ∃ P : VK, t σ H P ∧ ∀ v H', P v H' → Q v H'
theorem pe_cut {X : Cx} {e : Expr} {t : TE} (h : PE X e t) : PE X e (eCut t) := ⟨fun pins s σ H Q I q => by
  obtain ⟨P, q1, q2⟩ := q
  exact thn (h.run pins s σ H _ I q1) fun u s1 ⟨v, H', I', r, q⟩ => ⟨v, H', I', r, q2 _ _ q⟩⟩
theorem wf_only {H : Hp} (h : Only H) : Wf H := fun a o e => by
  rcases h a with q | ⟨ob, xs, q⟩
  · rw [q] at e
    cases e
  · rw [q] at e
    cases e
    exact .inl trivial
theorem lt_one {c d : Nat} : (([c] : List Nat) < [d]) ↔ c < d := by
  rw [List.cons_lt_cons_iff]
  constructor
  · rintro (h | ⟨_, h⟩)
    · exact h
    · exact absurd h (List.lt_irrefl _)
  · exact .inl
end R
namespace R
theorem st_ne {H : L2.Hp} {a l : PySem.Addr} (s : St2 H a) (n : H l = none) : l ≠ a := fun e => by
  obtain ⟨_, _, e1, _⟩ := s
  rw [← e, n] at e1
  cases e1
theorem bE.same {H H' : L2.Hp} {E : L2.XK} {c : PySem.Value} {d : Option PySem.Addr} (w : Wf H) (s : L2.Same H H') (q : E c d H) : bE H E c d H' := ⟨H, ⟨s, fun a o e => by rw [e, s a o e], w⟩, q⟩
theorem bE.mk {H H' : L2.Hp} {E : L2.XK} {c : PySem.Value} {d : Option PySem.Addr} (w : Wf H') (q : E c d H') : bE H E c d H' := ⟨H', Back.refl w, q⟩
end R
namespace R
open PySem PySem.Spec PyProof.Rows L2
/-! ### what is known of a value's type; data -/
/-- its type is one of the plain ones -/
def Kn (K : PySem.W.Frag) (H : Hp) (v : V) : Prop := match v with
  | .non => True
  | .bl _ => True
  | .int _ => True
  | .str _ => True
  | .ref p => TyX K H (.ref p) (.type "list") ∨ TyX K H (.ref p) (.type "tuple") ∨ TyX K H (.ref p) (.type "dict")
  | _ => False
section
variable {K : PySem.W.Frag} {H H' : Hp}
theorem ty_l {p : Addr} {xs : List V} (h : SqL K H p xs) : TyX K H (.ref p) (.type "list") := by
  rcases h with (h | ⟨o, h⟩) | ⟨o, _, _, h, c, _⟩
  · exact .base (.lst h)
  · exact .base (.frz h)
  · exact .kList h c
theorem ty_t {p : Addr} {xs : List V} (h : SqT K H p xs) : TyX K H (.ref p) (.type "tuple") := by
  rcases h with (h | ⟨o, h⟩) | ⟨o, _, _, h, c, _⟩
  · exact .base (.tup h)
  · exact .fTuple h
  · exact .kTuple h c
theorem Known.kn : ∀ {v : V}, Known K H v → Kn K H v
  | .non, h => h
  | .bl _, h => h
  | .int _, h => h
  | .str _, h => h
  | .ref _, .inl ⟨_, h⟩ => .inl (.base (.lst h))
  | .ref _, .inr (.inl ⟨_, h⟩) => .inr (.inl (.base (.tup h)))
  | .ref _, .inr (.inr ⟨_, h⟩) => .inr (.inr (.base (.dK h)))
  | .byt _, h => h.elim
  | .flt _, h => h.elim
  | .ty _, h => h.elim
theorem kn_dp {v : V} {d : PyData} (h : Dp K H v d) : Kn K H v := by
  cases h with
  | non => trivial
  | bl _ => trivial
  | int _ => trivial
  | str _ => trivial
  | lst h _ => exact .inl (ty_l h)
  | tup h _ => exact .inr (.inl (ty_t h))
theorem isk_str : ∀ {v : V}, Kn K H v → IsiV K H v "str" (isStr v)
  | .non, _ => isi_ty (b := false) (.base .non) (by decide +kernel)
  | .bl _, _ => isi_ty (b := false) (.base (.bl _)) (by decide +kernel)
  | .int _, _ => isi_ty (b := false) (.base (.int _)) (by decide +kernel)
  | .str _, _ => isi_ty (b := true) (.base (.str _)) (by decide +kernel)
  | .ref _, .inl h => isi_ty (b := false) h (by decide +kernel)
  | .ref _, .inr (.inl h) => isi_ty (b := false) h (by decide +kernel)
  | .ref _, .inr (.inr h) => isi_ty (b := false) h (by decide +kernel)
theorem isk_int : ∀ {v : V}, Kn K H v → IsiV K H v "int" (isInt v)
  | .non, _ => isi_ty (b := false) (.base .non) (by decide +kernel)
  | .bl _, _ => isi_ty (b := true) (.base (.bl _)) (by decide +kernel)
  | .int _, _ => isi_ty (b := true) (.base (.int _)) (by decide +kernel)
  | .str _, _ => isi_ty (b := false) (.base (.str _)) (by decide +kernel)
  | .ref _, .inl h => isi_ty (b := false) h (by decide +kernel)
  | .ref _, .inr (.inl h) => isi_ty (b := false) h (by decide +kernel)
  | .ref _, .inr (.inr h) => isi_ty (b := false) h (by decide +kernel)
theorem isk_bool : ∀ {v : V}, Kn K H v → IsiV K H v "bool" (isBl v)
  | .non, _ => isi_ty (b := false) (.base .non) (by decide +kernel)
  | .bl _, _ => isi_ty (b := true) (.base (.bl _)) (by decide +kernel)
  | .int _, _ => isi_ty (b := false) (.base (.int _)) (by decide +kernel)
  | .str _, _ => isi_ty (b := false) (.base (.str _)) (by decide +kernel)
  | .ref _, .inl h => isi_ty (b := false) h (by decide +kernel)
  | .ref _, .inr (.inl h) => isi_ty (b := false) h (by decide +kernel)
  | .ref _, .inr (.inr h) => isi_ty (b := false) h (by decide +kernel)
def isTupD : PyData → Bool | .tuple _ => true | _ => false
theorem isk_tup {v : V} {d : PyData} (h : Dp K H v d) : IsiV K H v "tuple" (isTupD d) := by
  cases h with
  | non => exact isi_ty (b := false) (.base .non) (by decide +kernel)
  | bl _ => exact isi_ty (b := false) (.base (.bl _)) (by decide +kernel)
  | int _ => exact isi_ty (b := false) (.base (.int _)) (by decide +kernel)
  | str _ => exact isi_ty (b := false) (.base (.str _)) (by decide +kernel)
  | lst h _ => exact isi_ty (b := false) (ty_l h) (by decide +kernel)
  | tup h _ => exact isi_ty (b := true) (ty_t h) (by decide +kernel)
def isLstD : PyData → Bool | .list _ => true | _ => false
theorem isk_lst {v : V} {d : PyData} (h : Dp K H v d) : IsiV K H v "list" (isLstD d) := by
  cases h with
  | non => exact isi_ty (b := false) (.base .non) (by decide +kernel)
  | bl _ => exact isi_ty (b := false) (.base (.bl _)) (by decide +kernel)
  | int _ => exact isi_ty (b := false) (.base (.int _)) (by decide +kernel)
  | str _ => exact isi_ty (b := false) (.base (.str _)) (by decide +kernel)
  | lst h _ => exact isi_ty (b := true) (ty_l h) (by decide +kernel)
  | tup h _ => exact isi_ty (b := false) (ty_t h) (by decide +kernel)
/-- what data lean on: every address's object that is read -/
theorem sqt_keep {p : Addr} {xs : List V} (k : ∀ o, H p = some o → H' p = some o) (h : SqT K H p xs) : SqT K H' p xs := by
  rcases h with (h | ⟨o, h⟩) | h
  · exact .inl (.inl (k _ h))
  · exact .inl (.inr ⟨o, k _ h⟩)
  · exact .inr h
theorem sql_keep {p : Addr} {xs : List V} (k : ∀ o, H p = some o → H' p = some o) (h : SqL K H p xs) : SqL K H' p xs := by
  rcases h with (h | ⟨o, h⟩) | h
  · exact .inl (.inl (k _ h))
  · exact .inl (.inr ⟨o, k _ h⟩)
  · exact .inr h
mutual
theorem dp_keep (k : ∀ p o, H p = some o → H' p = some o) : ∀ {v : V} {d : PyData}, Dp K H v d → Dp K H' v d
  | _, _, .non => .non
  | _, _, .bl b => .bl b
  | _, _, .int i => .int i
  | _, _, .str z => .str z
  | _, _, .lst h a => .lst (sql_keep (k _) h) (dpa_keep k a)
  | _, _, .tup h a => .tup (sqt_keep (k _) h) (dpa_keep k a)
theorem dpa_keep (k : ∀ p o, H p = some o → H' p = some o) : ∀ {vs : List V} {ds : List PyData}, DpAll K H vs ds → DpAll K H' vs ds
  | _, _, .nil => .nil
  | _, _, .cons h a => .cons (dp_keep k h) (dpa_keep k a)
end
theorem dpa_len : ∀ {vs : List V} {ds : List PyData}, DpAll K H vs ds → vs.length = ds.length
  | _, _, .nil => rfl
  | _, _, .cons _ a => congrArg (· + 1) (dpa_len a)
theorem dpa_at : ∀ {vs : List V} {ds : List PyData}, DpAll K H vs ds → ∀ {i : Nat} {v : V}, vs[i]? = some v → ∃ d, ds[i]? = some d ∧ Dp K H v d
  | _, _, .nil, i, v, e => by simp at e
  | _, _, .cons h _, 0, v, e => by cases Option.some.inj e; exact ⟨_, rfl, h⟩
  | _, _, .cons _ a, i + 1, v, e => dpa_at a (i := i) (by simpa using e)
/-- data that do not lean on what stands at a -/
def hid (a : Addr) (H : Hp) : Hp := fun b => if b = a then none else H b
abbrev Da (K : PySem.W.Frag) (a : Addr) (H : Hp) (v : V) (d : PyData) : Prop := Dp K (hid a H) v d
theorem Da.dp {a : Addr} {v : V} {d : PyData} (h : Da K a H v d) : Dp K H v d := dp_keep (fun p o e => by
  unfold hid at e
  split at e
  · cases e
  · exact e) h
theorem Da.dr {a : Addr} {v : V} {d : PyData} (h : Da K a H v d) (x : Dr a H H') : Da K a H' v d := dp_keep (fun p o e => by
  unfold hid at e ⊢
  split at e
  · cases e
  · rename_i n
    rw [if_neg n]
    exact x.kp p o n e) h
theorem dp_ne {a : Addr} {v : V} {d : PyData} (n : H a = none) (h : Dp K H v d) : Da K a H v d := dp_keep (fun p o e => by
  unfold hid
  rw [if_neg (ne_of_none e n)]
  exact e) h
/-- equality of data -/
theorem eq_d {v u : V} {d e : PyData} {Q : VK} (h : Dp K H v d) (g : Dp K H u e) (s1 : SeqAt.shaped d = true) (s2 : SeqAt.shaped e = true) (hs : scal v u = false) (q : Q (.bl (PyData.eqv d e)) H) : rEqU K v u H Q := by
  unfold rEqU
  rw [hs]
  exact ⟨d, e, h, g, s1, s2, q⟩
end
/-! ### own exceptions over ValueError, without an own __init__ -/
abbrev veB : List Value := [.type "ValueError", .type "Exception", .type "BaseException", .type "object"]
/-- what the class at C, named x, must say -/
structure Exc (K : PySem.W.Frag) (mg : Str → Option Value) (x : Str) (C : Addr) : Prop where
  g : mg x = some (.ref C)
  x : PySem.W.excIn K C veB "ValueError.__new__" = true
  k : PySem.W.keepIn K (.ref C) = true
  b : PySem.W.subIn K (.ref C) (.type "BaseException") = some true
  t : PySem.W.typeIn K (.ref C) = some (.type "type")
  d : PySem.W.hasDictIn K C = true
  v : PySem.W.subIn K (.ref C) (.type "ValueError") = some true
  cc : ExcC K C
theorem pmk_exc {X : Cx} {x m : Str} {C : Addr} {j : Nat} {p p2 pos : Pos} (e : Exc X.K X.mg x C) (hg : Gl X x := by rfl) (hdb : (x == ("__debug__" : Str)) = false := by decide) :
    PMk X (.Call (.Name x p) [.Constant (.str m) j p2] [] pos) (fun _ H Q => Q (.ref C) none H) :=
  pmk_own PySem.F.excBase_ValueError e.x e.g e.k (raises_own e.b e.t) hg hdb
theorem ps_rai {X : Cx} {x m : Str} {C : Addr} {j : Nat} {p p2 pos pos2 : Pos} {W : WX} (e : Exc X.K X.mg x C) (tk : Takes X W) (hc : X.calm = true := by rfl) (hg : Gl X x := by rfl) (hdb : (x == ("__debug__" : Str)) = false := by decide) :
    PS X (.Raise (some (.Call (.Name x p) [.Constant (.str m) j p2] [] pos)) none pos2) (fun _ σ H => W (.ref C) none σ H) := ps_raise hc tk (pmk_exc e hg hdb)
/-- C is under D, or not -/
theorem exc_under {K : PySem.W.Frag} {mg : Str → Option Value} {x y : Str} {C D : Addr} {b : Bool} (e : Exc K mg x C) (f : Exc K mg y D) (h : PySem.W.subIn K (.ref C) (.ref D) = some b) : PySem.W.exmOne K (.ref C) (.ref D) = some b := PySem.W.exm_ref f.b f.d f.t h
theorem exc_kit {K : PySem.W.Frag} {mg : Str → Option Value} {x y : Str} {C D : Addr} {b : Bool} (f : Exc K mg y D) (hne : C = D → b = true) (h : PySem.W.subIn K (.ref C) (.ref D) = some b) : PySem.W.kitOne K (.ref C) (.ref D) = some b := by
  unfold PySem.W.kitOne
  by_cases e : C = D
  · subst e
    rw [hne rfl]
    simp
  · have n : ((Value.ref C) == Value.ref D) = false := by
      simp only [beq_eq_false_iff_ne, ne_eq, Value.ref.injEq]
      exact e
    rw [n]
    have z := PySem.W.exm_ref f.b f.d f.t h
    unfold PySem.W.exmOne at z
    rw [f.b] at z
    simpa using z
/-- isinstance(e, c) in a suite -/
def rIsX (K : PySem.W.Frag) (cls : Value) (d : Option Addr) (a : Addr) : List V → Hp → VK → Prop := fun xs H Q => ∃ D, cls = .ref D ∧ d = none ∧ ExcC K D ∧ rIsE K D a xs H Q
theorem callU_isX {X : Cx} {K : PySem.W.Frag} {a : Addr} {cls : Value} {d : Option Addr} {oe : Obj} {pn : List (Addr × Obj)} (hz : Zc cls d oe) (hf : ∃ vs, oe.data = .fields vs) (hK : X.K = K := by rfl) : CallR (X.suite a ((a, oe) :: pn)) (.builtin "isinstance") (rIsX K cls d a) := by
  subst hK
  intro pins s σ H xs us Q I r h
  obtain ⟨D, rfl, rfl, c, h⟩ := h
  exact call_isE c hz hf pins s σ H xs us Q I r h
/-- try .. except x as n -/
theorem ps_tryA {X : Cx} {K : PySem.W.Frag} {x n : Str} {C : Addr} {i : Nat} {body suite : List Stmt} {b₀ : Stmt} {np pos pos' : Pos} {tb : WX → TS} {ts : Addr → Value → Option Addr → TS} {Wout : WX} (e : Exc X.K X.mg x C) (hN : X.N.Nodup) (hi : X.N[i]? = some n) (tk : Takes X Wout)
    (hb : ∀ (W : WX) (pn : List (Addr × Obj)) (xe : Value → Shared → Prop), Takes (X.tr pn xe) W → PassesOwn (model X.prog X.w) X.A X.env xe → PSs (X.tr pn xe) body (tb W))
    (hsu : ∀ (a : Addr) (oe : Obj) (cls : Value) (d : Option Addr) (pn : List (Addr × Obj)), Zc cls d oe → (∃ vs, oe.data = .fields vs) → PSs (X.suite a ((a, oe) :: pn)) (b₀ :: suite) (ts a cls d))
    (hs : X.stack = X.env :: X.outer := by rfl) (hf : X.env.frame = some X.env.locals := by rfl) (hln : X.env.kindOf n = some .local := by rfl) (hg : Gl X x := by rfl) (hdb : (x == ("__debug__" : Str)) = false := by decide) (hK : X.K = K := by rfl) :
    PS X (.Try body [.ExceptHandler (some (.Name x np)) (some n) (b₀ :: suite) pos'] [] [] pos) (fun D σ H => tb (wAs K (.ref C) i ts Wout D) D σ H) := by
  subst hK
  exact ps_try_as hs hf hN hi hln ⟨hg, hdb, .inl e.g⟩ tk hb hsu
/-- try .. except x -/
theorem ps_tryO {X : Cx} {K : PySem.W.Frag} {x : Str} {C : Addr} {body suite : List Stmt} {b₀ : Stmt} {np pos pos' : Pos} {tb : WX → TS} {ts : Addr → Value → Option Addr → TS} {Wout : WX} (e : Exc X.K X.mg x C) (tk : Takes X Wout)
    (hb : ∀ (W : WX) (pn : List (Addr × Obj)) (xe : Value → Shared → Prop), Takes (X.tr pn xe) W → PassesOwn (model X.prog X.w) X.A X.env xe → PSs (X.tr pn xe) body (tb W))
    (hsu : ∀ (a : Addr) (oe : Obj) (cls : Value) (d : Option Addr) (pn : List (Addr × Obj)), Zc cls d oe → (∃ vs, oe.data = .fields vs) → PSs (X.suite a ((a, oe) :: pn)) (b₀ :: suite) (ts a cls d))
    (hs : X.stack = X.env :: X.outer := by rfl) (hf : X.env.frame = some X.env.locals := by rfl) (hg : Gl X x := by rfl) (hdb : (x == ("__debug__" : Str)) = false := by decide) (hK : X.K = K := by rfl) :
    PS X (.Try body [.ExceptHandler (some (.Name x np)) none (b₀ :: suite) pos'] [] [] pos) (fun D σ H => tb (wOnly K (.ref C) ts Wout D) D σ H) := by
  subst hK
  exact ps_try_only hs hf ⟨hg, hdb, .inl e.g⟩ tk hb hsu
/-- a call that may raise: what is wished at the caller's slots -/
def cCallE (sp : Sp) (W : WX) (t : TA) : TE := fun σ H Q => t σ H fun vs H1 => sp vs H1 Q fun c d H' => W c d σ H'
end R
namespace R
open PySem PySem.Spec PyProof.Rows L2
section
variable {X : Cx} {k j : Nat} {x m : Str} {ps : List Str} {sp : Sp} {W : WX} {p pos apos : Pos} {e o : Expr} {es : List Expr} {ta : TE} {t : TA} {C : Addr}
theorem mono_a {es : List Expr} {t : TA} (ha : PA X es t) : PA X es (fun σ H Q => ∃ Q0 : List V → Hp → Prop, (∀ v H', Q0 v H' → Q v H') ∧ t σ H Q0) := ⟨fun pos pins s σ H Q I q => by
  obtain ⟨Q0, w, z⟩ := q
  exact thn (ha.run pos pins s σ H Q0 I z) fun u s1 ⟨v, H1, I1, r, q1⟩ => ⟨v, H1, I1, r, w v H1 q1⟩⟩
/-- f(..), f may raise -/
theorem pe_fS (O : Ok X.prog X.w X.K X.mg X.base k x ps sp) (hr : Room k X.A) (tk : Takes X W) (ha : PA X (e :: es) t) (hg : Gl X x := by rfl)
    (hdb : (x == ("__debug__" : Str)) = false := by decide) (he : starEach (e :: es) X.env = (false, eval e X.env) :: starEach es X.env := by rfl) (hpl : (backTo pos (starEach es X.env)).any (·.1) = false := by rfl) :
    PE X (.Call (.Name x p) (e :: es) [] pos) (cCallE sp W t) := by
  obtain ⟨f, fd, h1, h2, h3, F⟩ := O.ex
  exact pe_callS F hr hg h1 h2 h3 (fun σ => passAt tk σ) ha hdb he hpl
/-- a class's def: at C found by the name m -/
structure MtAt (K : PySem.W.Frag) (C : Addr) (m qual : Str) (st : Stmt) (ps : List Str) : Prop where
  ex : ∃ f fd, Meth K C m f ∧ Fun K m qual st f fd ∧ Binds K fd ps []
structure OkM (P : Program) (w : World) (K : PySem.W.Frag) (mg : Str → Option Value) (base : Heap) (k : Nat) (C : Addr) (m : Str) (ps : List Str) (sp : Sp) : Prop where
  ex : ∃ f fd, Meth K C m f ∧ Binds K fd ps [] ∧ FnOk P w K mg base (L2.CX P w) k f fd ps sp
theorem okM {P : Program} {w : World} {K : PySem.W.Frag} {mg : Str → Option Value} {base : Heap} {m qual : Str} {st : Stmt} {N ps : List Str} {k : Nat} {sp : Sp} {C : Addr} (F : MtAt K C m qual st ps) (S : FnScope N ps (defScope st)) (len : ∀ vs H Q E, sp vs H Q E → vs.length = ps.length)
    (hbody : ∀ (f : Addr) (cdv : Value) (A : Around) (outer : List Env) (s : Shared) (H : Hp) (vs : List V) (Q : VK) (E : XK), Room k (A.deeper (envOfC qual (defScope st) s.heap.objs.size f cdv)) → sp vs H Q E →
      ∃ t, PSs (cxOf (L2.CX P w) P w K mg base N qual (defScope st) f cdv A outer s H (bE H E)) (defBody st) t ∧ t { nx := fun _ H' => bQ H Q .non H', rt := bQ H Q } (start N vs) H) : OkM P w K mg base (k + 1) C m ps sp := by
  obtain ⟨f, fd, h1, h2, h3⟩ := F.ex
  exact ⟨f, fd, h1, h3, okX h2 S len (hbody f)⟩
def cMeth (CS : Addr → Prop) (m : Str) (sp : Addr → Sp) (W : WX) (ta : TE) (t : TA) : TE := fun σ H Q => ta σ H fun x H1 => ∃ a C dx fs, x = .ref a ∧ H1 a = some (.ins C dx fs) ∧ CS C ∧ fs.lookup m = none ∧
  t σ H1 fun vs H2 => sp C (x :: vs) H2 Q fun c d H' => W c d σ H'
/-- o.m(..), of an instance of one of the classes CS -/
theorem pe_mS {CS : Addr → Prop} {sp : Addr → Sp} {pl : Sem Bool} (he : PE X o ta) (c : ∀ C, CS C → Cls X.K C) (O : ∀ C, CS C → OkM X.prog X.w X.K X.mg X.base k C m ps (sp C)) (hr : Room k X.A) (tk : Takes X W) (ha : PA X (e :: es) t)
    (hst : starEach (e :: es) X.env = (false, eval e X.env) :: starEach es X.env := by rfl) (hpl : (backTo pos (starEach es X.env)).any (·.1) = false := by rfl)
    (ht : eval (.Call (.Attribute o m apos) (e :: es) [] pos) X.env = (do
      let ov ← eval o X.env
      standAt apos.atName
      let (f, first) ← holding [ov] (getMethod ov m pl)
      callWith pos f first (backTo pos (starEach (e :: es) X.env)) (backToKw pos (keywordEach [] X.env))) := by rfl) :
    PE X (.Call (.Attribute o m apos) (e :: es) [] pos) (cMeth CS m sp W ta t) := by
  refine ⟨fun pins s σ H Q I h => ?_⟩
  refine PySem.W.methodCall_KW (pl := pl) (thn (he.run pins s σ H _ I h) fun u s1 ⟨x, H1, I1, rx, a, C, dx, fs, ex, ea, cs, l, q⟩ => ?_) ht
  subst ex
  obtain rfl : u = Value.ref a := rx
  obtain ⟨f, fd, hm, hb, F⟩ := (O C cs).ex
  refine getmeth_ok I1 ea (c C cs) hm l ?_
  refine PySem.W.callWith_K (first := [.ref a]) (h₀ := X.base) I.ok.mod.kin hm.kp (thn (ha.run pos pins s1 σ H1 _ I1 q) fun us s2 ⟨vs, H2, I2, r, q2⟩ => ⟨I2.kIn, ?_⟩) hst hpl
  exact run_fnS (us := .ref a :: us) (vs := .ref a :: vs) F hr hb (passAt tk σ) I2 (.cons rfl r) q2
theorem pe_mS0 {CS : Addr → Prop} {sp : Addr → Sp} {pl : Sem Bool} (he : PE X o ta) (c : ∀ C, CS C → Cls X.K C) (O : ∀ C, CS C → OkM X.prog X.w X.K X.mg X.base k C m ps (sp C)) (hr : Room k X.A) (tk : Takes X W)
    (ht : eval (.Call (.Attribute o m apos) [] [] pos) X.env = (do
      let ov ← eval o X.env
      standAt apos.atName
      let (f, first) ← holding [ov] (getMethod ov m pl)
      callWith pos f first (backTo pos (starEach [] X.env)) (backToKw pos (keywordEach [] X.env))) := by rfl) :
    PE X (.Call (.Attribute o m apos) [] [] pos) (cMeth CS m sp W ta tNil) := by
  refine ⟨fun pins s σ H Q I h => ?_⟩
  refine PySem.W.methodCall_KW (pl := pl) (thn (he.run pins s σ H _ I h) fun u s1 ⟨x, H1, I1, rx, a, C, dx, fs, ex, ea, cs, l, q⟩ => ?_) ht
  subst ex
  obtain rfl : u = Value.ref a := rx
  obtain ⟨f, fd, hm, hb, F⟩ := (O C cs).ex
  refine getmeth_ok I1 ea (c C cs) hm l ?_
  exact PySem.W.callWith_K0 (first := [.ref a]) I1.kIn hm.kp (run_fnS (us := [.ref a]) (vs := [.ref a]) F hr hb (passAt tk σ) I1 (.cons rfl .nil) q)
/-- a class that makes instances -/
structure MkAt (K : PySem.W.Frag) (mg : Str → Option Value) (x : Str) (C : Addr) (qual : Str) (st : Stmt) (ps : List Str) : Prop where
  ex : mg x = some (.ref C) ∧ ∃ f fd, Mk K C f ∧ Fun K "__init__" qual st f fd ∧ Binds K fd ps []
structure OkI (P : Program) (w : World) (K : PySem.W.Frag) (mg : Str → Option Value) (base : Heap) (k : Nat) (x : Str) (C : Addr) (ps : List Str) (sp : Sp) : Prop where
  ex : mg x = some (.ref C) ∧ ∃ f fd, Mk K C f ∧ Binds K fd ps [] ∧ FnOk P w K mg base (L2.CX P w) k f fd ps sp
theorem okI {P : Program} {w : World} {K : PySem.W.Frag} {mg : Str → Option Value} {base : Heap} {x qual : Str} {st : Stmt} {N ps : List Str} {k : Nat} {sp : Sp} {C : Addr} (F : MkAt K mg x C qual st ps) (S : FnScope N ps (defScope st)) (len : ∀ vs H Q E, sp vs H Q E → vs.length = ps.length)
    (hbody : ∀ (f : Addr) (cdv : Value) (A : Around) (outer : List Env) (s : Shared) (H : Hp) (vs : List V) (Q : VK) (E : XK), Room k (A.deeper (envOfC qual (defScope st) s.heap.objs.size f cdv)) → sp vs H Q E →
      ∃ t, PSs (cxOf (L2.CX P w) P w K mg base N qual (defScope st) f cdv A outer s H (bE H E)) (defBody st) t ∧ t { nx := fun _ H' => bQ H Q .non H', rt := bQ H Q } (start N vs) H) : OkI P w K mg base (k + 1) x C ps sp := by
  obtain ⟨g, f, fd, h1, h2, h3⟩ := F.ex
  exact ⟨g, f, fd, h1, h3, okX h2 S len (hbody f)⟩
/-- C(..) -/
def cMake (C : Addr) (sp : Sp) (W : WX) (t : TA) : TE := fun σ H Q => t σ H fun vs H1 => ∀ x dx, H1 x = none → H1 dx = none → dx ≠ x →
  sp (.ref x :: vs) (upd (upd H1 dx (.own x)) x (.ins C dx [])) (fun v H2 => v = .non ∧ Q (.ref x) H2) fun c d H' => W c d σ H'
theorem run_makeS {pins : List (Addr × Obj)} {σ : L2.St} {H : Hp} {s : Shared} {Q : VK} {us : List Value} {vs : List V} {f : Addr} {fd : FuncData} (M : Mk X.K C f) (F : FnOk X.prog X.w X.K X.mg X.base (L2.CX X.prog X.w) k f fd ps sp) (hr : Room (k + 1) X.A) (hb : Binds X.K fd ps []) (tk : Takes X W)
    (I : Inv X pins σ H s) (r : Vals vs us)
    (h : ∀ x dx, H x = none → H dx = none → dx ≠ x → sp (.ref x :: vs) (upd (upd H dx (.own x)) x (.ins C dx [])) (fun v H2 => v = .non ∧ Q (.ref x) H2) fun c d H' => W c d σ H') :
    wpAny (model X.prog X.w) X.A (call (.ref C) us) (EP X pins σ Q) X.xe s := by
  have hq := h (s.heap.objs.size + 1) s.heap.objs.size (I.hok.fresh (Nat.le_succ _)) (I.hok.fresh (Nat.le_refl _)) (Nat.ne_of_lt (Nat.lt_succ_self _))
  have I2 := Inv.made (C := C) I
  have r2 : Vals (V.ref (s.heap.objs.size + 1) :: vs) (Value.ref (s.heap.objs.size + 1) :: us) := .cons rfl r
  have hl : (Value.ref (s.heap.objs.size + 1) :: us).length = ps.length := by
    have e := r2.length
    rw [F.len _ _ _ _ hq] at e
    exact e.symm
  have b := hb _ (Value.ref (s.heap.objs.size + 1) :: us) I2.kIn (by rw [List.append_nil]; exact hl)
  rw [List.append_nil] at b
  refine wpAny_call (make_map (f := f) I.kIn M.makes M.init (beq_iff_eq.mp M.fn) (codeAny_mono (F.run _ X.stack _ _ ⟨Value.ref (s.heap.objs.size + 1) :: us, []⟩ (Value.ref (s.heap.objs.size + 1) :: us) _ _ _ (hr.make C us [])
    (I2.env0.make C us []) b r2 hq) fun r s' hq' => ?_))
  cases r with
  | error e => exact passAt tk σ pins _ _ e s' I2 hq'
  | ok fl =>
    cases fl with
    | ret u =>
      obtain ⟨v, H', I3, rv, ev, q3⟩ := I2.after hq'
      subst ev
      exact ⟨rv, ⟨V.ref (s.heap.objs.size + 1), H', I3, rfl, q3⟩⟩
    | next => exact False.elim hq'
    | brk => exact False.elim hq'
    | cont => exact False.elim hq'
theorem pe_mkS (O : OkI X.prog X.w X.K X.mg X.base k x C ps sp) (hr : Room (k + 1) X.A) (tk : Takes X W) (ha : PA X (e :: es) t) (hg : Gl X x := by rfl)
    (hdb : (x == ("__debug__" : Str)) = false := by decide) (he : starEach (e :: es) X.env = (false, eval e X.env) :: starEach es X.env := by rfl) (hpl : (backTo pos (starEach es X.env)).any (·.1) = false := by rfl) :
    PE X (.Call (.Name x p) (e :: es) [] pos) (cMake C sp W t) := by
  obtain ⟨g, f, fd, M, hb, F⟩ := O.ex
  refine ⟨fun pins s σ H Q I h => ?_⟩
  refine wpAny_Call_Name_kw (ld_glob I hg g ?_ hdb)
  refine PySem.W.callWith_K (h₀ := X.base) I.ok.mod.kin M.kp (thn (ha.run pos pins s σ H _ I h) fun us s1 ⟨vs, H1, I1, r, q⟩ => ⟨I1.kIn, ?_⟩) he hpl
  exact run_makeS M F hr hb tk I1 r q
theorem pe_mkS0 (O : OkI X.prog X.w X.K X.mg X.base k x C ps sp) (hr : Room (k + 1) X.A) (tk : Takes X W) (hg : Gl X x := by rfl)
    (hdb : (x == ("__debug__" : Str)) = false := by decide) : PE X (.Call (.Name x p) [] [] pos) (cMake C sp W tNil) := by
  obtain ⟨g, f, fd, M, hb, F⟩ := O.ex
  refine ⟨fun pins s σ H Q I h => ?_⟩
  refine wpAny_Call_Name_kw (ld_glob I hg g ?_ hdb)
  exact PySem.W.callWith_K0 I.kIn M.kp (run_makeS (us := []) M F hr hb tk I .nil h)
/-- what isinstance asks of an own class's instance -/
structure OwnC (K : PySem.W.Frag) (mg : Str → Option Value) (x : Str) (C : Addr) : Prop where
  g : mg x = some (.ref C)
  cl : Cls K C
  ha : PySem.W.findIn K (.ref C) "__class__" = some (some (.builtin "object.__class__"))
  hn : PySem.W.specialIn K (.builtin "object.__class__") "__get__" = some (some (.builtin "getset_descriptor.__get__"))
  ht : PySem.W.takesIn K (.builtin "object.__class__") = some true
  hm : PySem.W.mroIn K C (.type "object") = some true
theorem OwnC.ty {K : PySem.W.Frag} {mg : Str → Option Value} {x : Str} {C a dx : Addr} {H : Hp} {fs : List (Str × V)} (o : OwnC K mg x C) (h : H a = some (.ins C dx fs)) : TyX K H (.ref a) (.ref C) := .base (.ins h o.cl o.ha o.hn o.ht o.hm)
theorem Wf.ins {H : Hp} {a C dx : Addr} {fs gs : List (Str × V)} (w : Wf H) (h : H a = some (.ins C dx fs)) : Wf (upd H a (.ins C dx gs)) := fun b u e => by
  have hd : H dx = some (.own a) := by
    rcases w a _ h with f | ⟨C', dx', fs', e', hd⟩
    · exact f.elim
    · cases e'
      exact hd
  have nda : dx ≠ a := ne_of hd h (fun z => by cases z)
  by_cases hb : b = a
  · subst hb
    rw [upd_same] at e
    cases e
    exact .inr ⟨C, dx, gs, rfl, by rw [upd_ne nda]; exact hd⟩
  · rw [upd_ne hb] at e
    rcases w b u e with f | ⟨C', dx', fs', rfl, hd'⟩
    · exact .inl f
    · refine .inr ⟨C', dx', fs', rfl, ?_⟩
      have n : dx' ≠ a := ne_of hd' h (fun z => by cases z)
      rw [upd_ne n]
      exact hd'
/-- a new instance stands -/
theorem Wf.made {H : Hp} {x dx C : Addr} {fs : List (Str × V)} (w : Wf H) (nx : H x = none) (nd : H dx = none) (ne : dx ≠ x) : Wf (upd (upd H dx (.own x)) x (.ins C dx fs)) := fun b u e => by
  by_cases hb : b = x
  · subst hb
    rw [upd_same] at e
    cases e
    exact .inr ⟨C, dx, fs, rfl, by rw [upd_ne ne, upd_same]⟩
  · rw [upd_ne hb] at e
    by_cases hd : b = dx
    · subst hd
      rw [upd_same] at e
      cases e
      exact .inl trivial
    · rw [upd_ne hd] at e
      rcases w b u e with f | ⟨C', dx', fs', rfl, h⟩
      · exact .inl f
      · refine .inr ⟨C', dx', fs', rfl, ?_⟩
        rw [upd_ne (ne_of_none h nx), upd_ne (ne_of_none h nd)]
        exact h
end
end R
namespace R
open PySem PySem.Spec PyProof.Rows L2
theorem dpa5 {K : PySem.W.Frag} {H : Hp} {xs : List V} {ds : List PyData} (h : DpAll K H xs ds) (l : xs.length = 5) :
    ∃ x1 x2 x3 x4 x5 d1 d2 d3 d4 d5, xs = [x1, x2, x3, x4, x5] ∧ ds = [d1, d2, d3, d4, d5] ∧ Dp K H x1 d1 ∧ Dp K H x2 d2 ∧ Dp K H x3 d3 ∧ Dp K H x4 d4 ∧ Dp K H x5 d5 := by
  cases h with
  | nil => cases l
  | cons g1 h =>
    cases h with
    | nil => cases l
    | cons g2 h =>
      cases h with
      | nil => cases l
      | cons g3 h =>
        cases h with
        | nil => cases l
        | cons g4 h =>
          cases h with
          | nil => cases l
          | cons g5 h =>
            cases h with
            | nil => exact ⟨_, _, _, _, _, _, _, _, _, _, rfl, rfl, g1, g2, g3, g4, g5⟩
            | cons g6 h => simp at l
end R
namespace R
open PySem PySem.Spec PyProof.Rows L2
theorem hid_at {a b : Addr} {H : Hp} {o : HO} (n : b ≠ a) (h : H b = some o) : hid a H b = some o := by
  unfold hid
  rw [if_neg n]
  exact h
theorem exc_is {K : PySem.W.Frag} {mg : Str → Option Value} {x y : Str} {C D : Addr} {b : Bool} (e : Exc K mg x C) (s : PySem.W.subIn K (.ref C) (.ref C) = some true) (f : Exc K mg y D) (h : PySem.W.subIn K (.ref C) (.ref D) = some b) : PySem.W.kitOne K (.ref C) (.ref D) = some b :=
  exc_kit (x := x) f (fun z => by
    subst z
    rw [s] at h
    exact (Option.some.inj h).symm) h
theorem exc_ve {K : PySem.W.Frag} {mg : Str → Option Value} {x : Str} {C : Addr} (e : Exc K mg x C) : PySem.W.kitOne K (.ref C) (.type "ValueError") = some true := by
  unfold PySem.W.kitOne
  have n : ((Value.ref C) == Value.type "ValueError") = false := by simp
  rw [n]
  have m : PySem.W.kitMeta "ValueError" = true := by decide +kernel
  unfold PySem.W.kitCls
  simp only [m, if_true]
  simpa using e.v
theorem at_last {α : Type} {xs : List α} (h : xs ≠ []) : ∃ v, atI xs (-1) = some v ∧ v ∈ xs := by
  refine ⟨xs.getLast h, ?_, List.getLast_mem h⟩
  conv => lhs; rw [← List.dropLast_concat_getLast h]
  exact atI_last _ _
theorem cut_mem {xs : List V} {lo hi : Option Int} {v : V} (h : v ∈ cutV xs lo hi) : v ∈ xs := by
  unfold cutV at h
  exact List.mem_of_mem_drop (List.mem_of_mem_take h)
theorem cut_len {xs : List V} {lo hi : Option Int} : (cutV xs lo hi).length ≤ xs.length := by
  unfold cutV
  rw [List.length_take, List.length_drop]
  omega
end R
namespace R
open PySem PySem.Spec PyProof.Rows L2
theorem Dr.free {a p : Addr} {H H' : Hp} (x : Dr a H H') (n : H' p = none) : H p = none := by
  cases e : H p with
  | none => rfl
  | some o =>
    by_cases h : p = a
    · subst h
      obtain ⟨_, _, z, _⟩ := x.st
      rw [n] at z
      cases z
    · rw [x.kp p o h e] at n
      cases n
end R
namespace R
open PySem PySem.Spec PyProof.Rows L2
theorem tups_put {K : PySem.W.Frag} {H : Hp} {R : Addr} {xs : List V} {o : HO} (e : H R = some (.lst xs)) : ∀ p ys, SqT K H p ys → SqT K (upd H R o) p ys := fun p ys h => by
  rcases h with (h | ⟨z, h⟩) | h
  · exact .inl (.inl (by rw [upd_ne (ne_of h e (fun z => by cases z))]; exact h))
  · exact .inl (.inr ⟨z, by rw [upd_ne (ne_of h e (fun z => by cases z))]; exact h⟩)
  · exact .inr h
theorem same_put {H H' : Hp} {R : Addr} {o : HO} (s : Same H H') (n : H R = none) : Same H (upd H' R o) := fun b u e => by
  rw [upd_ne (ne_of_none e n)]
  exact s b u e
theorem st_put {H : Hp} {a R : Addr} {o : HO} (s : St2 H a) (n : R ≠ a) : St2 (upd H R o) a := by
  obtain ⟨p, q, e, h⟩ := s
  exact ⟨p, q, by rw [upd_ne n.symm]; exact e, h⟩
end R
namespace R
open PySem PySem.Spec PyProof.Rows L2
theorem pe_xc {X : Cx} {x : Str} {C : Addr} {pos : Pos} (e : Exc X.K X.mg x C) (hg : Gl X x := by rfl) (hd : (x == ("__debug__" : Str)) = false := by decide) : PE X (.Name x pos) (tC (.ref C)) := pe_glob hg e.g rfl hd
theorem pe_oc {X : Cx} {x : Str} {C : Addr} {pos : Pos} (e : OwnC X.K X.mg x C) (hg : Gl X x := by rfl) (hd : (x == ("__debug__" : Str)) = false := by decide) : PE X (.Name x pos) (tC (.ref C)) := pe_glob hg e.g rfl hd
theorem stL_ne {p q : Int} {xs : List V} : HO.tup xs ≠ stL p q := fun z => by cases z
theorem Dr.tups {K : PySem.W.Frag} {a : Addr} {H H' : Hp} (x : Dr a H H') (s : St2 H a) : ∀ p xs, SqT K H p xs → SqT K H' p xs := fun p xs h => by
  rcases h with (h | ⟨o, h⟩) | h
  · exact .inl (.inl (x.at h (fun _ _ => stL_ne) s))
  · refine .inl (.inr ⟨o, x.at h (fun _ _ z => by cases z) s⟩)
  · exact .inr h
theorem same_tups {K : PySem.W.Frag} {H H' : Hp} (x : Same H H') : ∀ p xs, SqT K H p xs → SqT K H' p xs := fun p xs h => sqt_keep (fun o e => x p o e) h
end R
namespace R
open PySem PySem.Spec PyProof.Rows L2
/-- two lists side by side -/
inductive Al2 {α β : Type} (P : α → β → Prop) : List α → List β → Prop where
  | nil : Al2 P [] []
  | cons {a b xs ys} : P a b → Al2 P xs ys → Al2 P (a :: xs) (b :: ys)
namespace Al2
variable {α β : Type} {P P' : α → β → Prop}
theorem len : ∀ {xs : List α} {ys : List β}, Al2 P xs ys → xs.length = ys.length
  | _, _, .nil => rfl
  | _, _, .cons _ h => by rw [List.length_cons, List.length_cons, len h]
theorem mono (f : ∀ a b, P a b → P' a b) : ∀ {xs : List α} {ys : List β}, Al2 P xs ys → Al2 P' xs ys
  | _, _, .nil => .nil
  | _, _, .cons p h => .cons (f _ _ p) (mono f h)
theorem snoc {a : α} {b : β} (p : P a b) : ∀ {xs : List α} {ys : List β}, Al2 P xs ys → Al2 P (xs ++ [a]) (ys ++ [b])
  | _, _, .nil => .cons p .nil
  | _, _, .cons q h => .cons q (snoc p h)
theorem app : ∀ {xs : List α} {ys : List β} {us : List α} {vs : List β}, Al2 P xs ys → Al2 P us vs → Al2 P (xs ++ us) (ys ++ vs)
  | _, _, _, _, .nil, g => g
  | _, _, _, _, .cons q h, g => .cons q (app h g)
theorem nth : ∀ {xs : List α} {ys : List β} {i : Nat} {a : α}, Al2 P xs ys → xs[i]? = some a → ∃ b, ys[i]? = some b ∧ P a b
  | _, _, _, _, .nil, e => by simp at e
  | _, _, 0, _, .cons p _, e => by
    simp at e
    subst e
    exact ⟨_, rfl, p⟩
  | _, _, _ + 1, _, .cons _ h, e => by
    simp at e
    obtain ⟨b, e2, p⟩ := nth h e
    exact ⟨b, by simpa using e2, p⟩
theorem mem {xs : List α} {ys : List β} {a : α} (h : Al2 P xs ys) (m : a ∈ xs) : ∃ b, b ∈ ys ∧ P a b := by
  obtain ⟨i, hi, rfl⟩ := List.getElem_of_mem m
  obtain ⟨b, e, p⟩ := h.nth (List.getElem?_eq_getElem hi)
  exact ⟨b, List.mem_of_getElem? e, p⟩
end Al2
/-- a place in a list, with what stands beside it -/
theorem Al2.at {β : Type} {P : V → β → Prop} {xs : List V} {ys : List β} {i : Int} (h : Al2 P xs ys) (h0 : 0 ≤ i) (h1 : i < xs.length) : ∃ v b, atI xs i = some v ∧ ys[i.toNat]? = some b ∧ P v b := by
  obtain ⟨j, rfl⟩ : ∃ j : Nat, i = j := ⟨i.toNat, by omega⟩
  have hj : j < xs.length := by omega
  obtain ⟨b, e, p⟩ := h.nth (List.getElem?_eq_getElem hj)
  exact ⟨xs[j], b, atI_nat (List.getElem?_eq_getElem hj), e, p⟩
end R
namespace W
open PySem PySem.Spec PyProof.Rows L2 R
def topS (i : Nat) : Stmt := PySem.Challenge.pw_rowlent_k04_who_goes_ahead.main.body.getD i (.Pass ⟨0, 0, 0, 0⟩)

structure Ad where
  LentError : Addr
  NoWork : Addr
  Work : Addr
  Loose : Addr
  Grouped : Addr

structure Txt (K : PySem.W.Frag) (mg : Str → Option Value) (c : Ad) : Prop where
  m_all : mg "all" = none
  m_isinstance : mg "isinstance" = none
  m_str : mg "str" = none
  m_len : mg "len" = none
  m_int : mg "int" = none
  m_bool : mg "bool" = none
  m_tuple : mg "tuple" = none
  m_range : mg "range" = none
  m_min : mg "min" = none
  g_MOST_LETTERS : GlV mg "MOST_LETTERS" (.int 8)
  g_LETTERS : GlV mg "LETTERS" (.str "abcdefghijklmnopqrstuvwxyz")
  g_MOST_MOMENT : GlV mg "MOST_MOMENT" (.int 1000000000000)
  g_MOST_PLACE : GlV mg "MOST_PLACE" (.int 1000000000)
  x_LentError : Exc K mg "LentError" c.LentError
  x_NoWork : Exc K mg "NoWork" c.NoWork
  s_Loose_Work : PySem.W.kitOne K (.ref c.Loose) (.ref c.Work) = some true
  s_Loose_Loose : PySem.W.kitOne K (.ref c.Loose) (.ref c.Loose) = some true
  s_Loose_Grouped : PySem.W.kitOne K (.ref c.Loose) (.ref c.Grouped) = some false
  s_Grouped_Work : PySem.W.kitOne K (.ref c.Grouped) (.ref c.Work) = some true
  s_Grouped_Loose : PySem.W.kitOne K (.ref c.Grouped) (.ref c.Loose) = some false
  s_Grouped_Grouped : PySem.W.kitOne K (.ref c.Grouped) (.ref c.Grouped) = some true
  o_Work : OwnC K mg "Work" c.Work
  o_Loose : OwnC K mg "Loose" c.Loose
  o_Grouped : OwnC K mg "Grouped" c.Grouped
  i_Work : MkAt K mg "Work" c.Work "Work.__init__" (inClass (topS 12) 0) ["self", "name", "house", "ready", "group", "place"]
  m_Work_told : MtAt K c.Work "told" "Work.told" (inClass (topS 12) 1) ["self"]
  m_Work_goes_ahead : MtAt K c.Work "goes_ahead" "Work.goes_ahead" (inClass (topS 12) 2) ["self", "other"]
  n_Work_name : NoAttr K c.Work "name"
  n_Work_house : NoAttr K c.Work "house"
  n_Work_ready : NoAttr K c.Work "ready"
  n_Work_group : NoAttr K c.Work "group"
  n_Work_place : NoAttr K c.Work "place"
  i_Loose : MkAt K mg "Loose" c.Loose "Work.__init__" (inClass (topS 12) 0) ["self", "name", "house", "ready", "group", "place"]
  m_Loose_told : MtAt K c.Loose "told" "Work.told" (inClass (topS 12) 1) ["self"]
  m_Loose_goes_ahead : MtAt K c.Loose "goes_ahead" "Work.goes_ahead" (inClass (topS 12) 2) ["self", "other"]
  n_Loose_name : NoAttr K c.Loose "name"
  n_Loose_house : NoAttr K c.Loose "house"
  n_Loose_ready : NoAttr K c.Loose "ready"
  n_Loose_group : NoAttr K c.Loose "group"
  n_Loose_place : NoAttr K c.Loose "place"
  i_Grouped : MkAt K mg "Grouped" c.Grouped "Work.__init__" (inClass (topS 12) 0) ["self", "name", "house", "ready", "group", "place"]
  m_Grouped_goes_ahead : MtAt K c.Grouped "goes_ahead" "Grouped.goes_ahead" (inClass (topS 14) 0) ["self", "other"]
  m_Grouped_told : MtAt K c.Grouped "told" "Work.told" (inClass (topS 12) 1) ["self"]
  n_Grouped_name : NoAttr K c.Grouped "name"
  n_Grouped_house : NoAttr K c.Grouped "house"
  n_Grouped_ready : NoAttr K c.Grouped "ready"
  n_Grouped_group : NoAttr K c.Grouped "group"
  n_Grouped_place : NoAttr K c.Grouped "place"
  f_is_name : FnAt K mg "is_name" "is_name" (topS 7) ["thing"]
  f_is_whole : FnAt K mg "is_whole" "is_whole" (topS 8) ["thing", "low", "high"]
  f_is_moment : FnAt K mg "is_moment" "is_moment" (topS 9) ["thing"]
  f_is_work : FnAt K mg "is_work" "is_work" (topS 15) ["told"]
  f_work_of : FnAt K mg "work_of" "work_of" (topS 16) ["told"]
  f__law_cell_at : FnAt K mg "_law_cell_at" "_law_cell_at" (topS 18) ["_law_script", "_law_k"]
  f__law_state : FnAt K mg "_law_state" "_law_state" (topS 19) ["_law_cell", "_law_k"]
  f__law_mixed : FnAt K mg "_law_mixed" "_law_mixed" (topS 20) ["_law_number"]
  f__law_digit : FnAt K mg "_law_digit" "_law_digit" (topS 21) ["_law_state_here", "_law_base"]
  f__law_name : FnAt K mg "_law_name" "_law_name" (topS 22) ["_law_state_here"]
  f__law_told : FnAt K mg "_law_told" "_law_told" (topS 23) ["_law_state_here", "_law_groups", "_law_known"]
  f__law_due : FnAt K mg "_law_due" "_law_due" (topS 24) ["_law_one", "_law_other"]
  f__law_pairs_right : FnAt K mg "_law_pairs_right" "_law_pairs_right" (topS 25) ["_law_works", "_law_others", "_law_rows", "_law_at"]
  f__law_by_itself : FnAt K mg "_law_by_itself" "_law_by_itself" (topS 26) ["_law_told_here"]

def fs_Work (v0 v1 v2 v3 v4 : V) : List (Str × V) := [(("name" : Str), v0), (("house" : Str), v1), (("ready" : Str), v2), (("group" : Str), v3), (("place" : Str), v4)]
def cs_Loose (c : Ad) (C : Addr) : Prop := C = c.Loose
theorem okc_Loose {K : PySem.W.Frag} {mg : Str → Option Value} {c : Ad} (T : Txt K mg c) : ∀ C, cs_Loose c C → Cls K C := fun C h => by
  have e : C = c.Loose := h
  subst e
  exact T.o_Loose.cl
def cs_Grouped (c : Ad) (C : Addr) : Prop := C = c.Grouped
theorem okc_Grouped {K : PySem.W.Frag} {mg : Str → Option Value} {c : Ad} (T : Txt K mg c) : ∀ C, cs_Grouped c C → Cls K C := fun C h => by
  have e : C = c.Grouped := h
  subst e
  exact T.o_Grouped.cl

abbrev lets : List Nat := ("abcdefghijklmnopqrstuvwxyz" : Str).cps.toList
def isNameB : V → Bool
  | .str z => decide (1 ≤ (z.length : Int)) && decide ((z.length : Int) ≤ 8) && z.cps.toList.all fun c => decide (c ∈ lets)
  | _ => false
def isWholeB : V → Int → Int → Bool
  | .int n, a, b => decide (a ≤ n) && decide (n ≤ b)
  | _, _, _ => false
def Short (v : V) : Prop := ∀ z, v = .str z → z.length ≤ 1000000 ∧ sOk z

abbrev s_is_name : Stmt := topS 7
abbrev N_is_name : List Str := ["thing", "sign"]
theorem sc_is_name : FnScope N_is_name ["thing"] (defScope s_is_name) := ⟨rfl, rfl, rfl, by decide +kernel, rfl, by decide +kernel, by decide +kernel⟩
def sp_is_name (K : PySem.W.Frag) (c : Ad) : Sp := fun vs H Q E => arg1 (fun v => Kn K H v ∧ Short v ∧ Wf H ∧ Q (.bl (isNameB v)) H) vs
theorem ok_is_name {P : Program} {w : World} {K : PySem.W.Frag} {mg : Str → Option Value} {base : Heap} {c : Ad} (T : Txt K mg c) : Ok P w K mg base 1 "is_name" ["thing"] (sp_is_name K c) := by
  refine okF T.f_is_name sc_is_name (fun vs H Q E h => ?_) (fun f cdv A outer sh H vs Q E hr h => ?_)
  · obtain ⟨v, rfl, h⟩ := arg1.ex h
    rfl
  · obtain ⟨v, rfl, h⟩ := arg1.ex h
    have tk : Takes (cxOf (L2.CX P w) P w K mg base N_is_name "is_name" (defScope s_is_name) f cdv A outer sh H (bE H E)) (fun cls d _ H' => bE H E cls d H') := takes_of rfl rfl rfl rfl
    refine ⟨_, pss_cons (ps_if (PW.pt (pw_or (pt_not (pt_truthU (K := K) (pe_callB (callU_isi (K := K)) (by rfl) T.m_isinstance (by decide +kernel) (pa_cons (lv 0) (pa_cons (pe_ty "str" T.m_str) pa_nil))) (by intro _; rfl))) (pw_or1 (pt_not (pt_chainU opU_le opU_le pe_int (pe_callB (callU_len (K := K)) (by rfl) T.m_len (by decide +kernel) (pa_cons (lv 0) pa_nil)) (pe_g T.g_MOST_LETTERS))))))
      (pss_one (ps_ret pe_bl)) pss_nil)
      (pss_one (ps_ret (pe_callB (callU_all (K := K) rfl) (by rfl) T.m_all (by decide +kernel) (pa_cons (pe_lc (own := [("sign", 1)]) (g := gName 1) rfl sc_is_name.nd (pi_str (lv 0)) (blkOk_by (own := [("sign", 1)]) (N := N_is_name) (sc := defScope s_is_name) (by decide +kernel)) (fun _ _ _ _ _ => pg_name (i := 1) sc_is_name.nd rfl (.inl rfl)) (fun _ _ _ _ _ => pts_nil) (fun _ _ _ _ _ => pe_cmpR (opU_in (K := K)) (lv 1) (pe_g T.g_LETTERS) (by rfl))) pa_nil)))), ?_⟩
    obtain ⟨hk, hz, wf, k⟩ := h
    refine ⟨_, isk_str hk, ?_⟩
    cases v with
    | str z =>
      refine ⟨line_of (Nat.le_trans ((hz z rfl).1) (by decide)), ?_⟩
      refine iteC (p := 1 ≤ (z.length : Int)) (fun h1 => ?_) (fun h1 => ?_)
      · refine iteB (fun h2' => ?_) (fun h2' => ?_)
        · have h2 := nd_t h2'
          refine bQ.same wf (Same.refl _) ?_
          have e2 : isNameB (.str z) = false := by
            show (decide (1 ≤ (z.length : Int)) && decide ((z.length : Int) ≤ 8) && _) = _
            rw [decide_eq_false h2, Bool.and_false, Bool.false_and]
          rw [← e2]
          exact k
        · have h2 := nd_f h2'
          refine ⟨z, rfl, fun D nD => ?_⟩
          refine lc_map (walk_str (z := z)) (fun i x => ∃ c, z.cps[i]? = some c ∧ x = .str ⟨#[c]⟩) (fun i H x H' h => h) (fun i => .bl (decide (z.cps.toList.getD i 0 ∈ lets))) (line_lt (Nat.lt_of_le_of_lt ((hz z rfl).1) (by decide))) (fun _ => trivial) (fun i x acc C hi hx hC => ?_) ?_
          · obtain ⟨c, hc, rfl⟩ := hx
            have e : z.cps.toList.getD i 0 = c := by simp [hc]
            rw [e] at hC
            refine ⟨rfl, c, rfl, ?_⟩
            simpa using hC
          · refine ⟨(List.range z.cps.size).map fun i => decide (z.cps.toList.getD i 0 ∈ lets), .inl (.inl ?_), ?_⟩
            · rw [upd_same, List.map_map]
              rfl
            · refine bQ.same wf (same_new nD) ?_
              have e : ((List.range z.cps.size).map fun i => decide (z.cps.toList.getD i 0 ∈ lets)) = z.cps.toList.map fun c => decide (c ∈ lets) := by
                rw [← R.range_getD z.cps.toList 0 fun c => decide (c ∈ lets)]
                rfl
              rw [e]
              have e2 : isNameB (.str z) = (z.cps.toList.map fun c => decide (c ∈ lets)).all id := by
                show (decide (1 ≤ (z.length : Int)) && decide ((z.length : Int) ≤ 8) && _) = _
                rw [decide_eq_true h1, decide_eq_true h2, List.all_map]
                rfl
              rw [e2] at k
              exact k
      · refine bQ.same wf (Same.refl _) ?_
        have e2 : isNameB (.str z) = false := by
          show (decide (1 ≤ (z.length : Int)) && decide ((z.length : Int) ≤ 8) && _) = _
          rw [decide_eq_false h1, Bool.false_and, Bool.false_and]
        rw [← e2]
        exact k
    | non => exact bQ.same wf (Same.refl _) k
    | bl b => exact bQ.same wf (Same.refl _) k
    | int n => exact bQ.same wf (Same.refl _) k
    | ref p => exact bQ.same wf (Same.refl _) k
    | byt b => exact hk.elim
    | flt b => exact hk.elim
    | ty b => exact hk.elim

abbrev s_is_whole : Stmt := topS 8
abbrev N_is_whole : List Str := ["thing", "low", "high"]
theorem sc_is_whole : FnScope N_is_whole ["thing", "low", "high"] (defScope s_is_whole) := ⟨rfl, rfl, rfl, by decide +kernel, rfl, by decide +kernel, by decide +kernel⟩
def sp_is_whole (K : PySem.W.Frag) (c : Ad) : Sp := fun vs H Q E => arg3 (fun v lo hi => ∃ a b, lo = .int a ∧ hi = .int b ∧ Kn K H v ∧ Wf H ∧ Q (.bl (isWholeB v a b)) H) vs
theorem ok_is_whole {P : Program} {w : World} {K : PySem.W.Frag} {mg : Str → Option Value} {base : Heap} {c : Ad} (T : Txt K mg c) : Ok P w K mg base 1 "is_whole" ["thing", "low", "high"] (sp_is_whole K c) := by
  refine okF T.f_is_whole sc_is_whole (fun vs H Q E h => ?_) (fun f cdv A outer sh H vs Q E hr h => ?_)
  · obtain ⟨v, lo, hi, rfl, h⟩ := arg3.ex h
    rfl
  · obtain ⟨v, lo, hi, rfl, h⟩ := arg3.ex h
    have tk : Takes (cxOf (L2.CX P w) P w K mg base N_is_whole "is_whole" (defScope s_is_whole) f cdv A outer sh H (bE H E)) (fun cls d _ H' => bE H E cls d H') := takes_of rfl rfl rfl rfl
    refine ⟨_, pss_one (ps_ret (pe_andU (K := K) (pe_callB (callU_isi (K := K)) (by rfl) T.m_isinstance (by decide +kernel) (pa_cons (lv 0) (pa_cons (pe_ty "int" T.m_int) pa_nil))) (pe_andU (K := K) (pe_notU (K := K) (pe_callB (callU_isi (K := K)) (by rfl) T.m_isinstance (by decide +kernel) (pa_cons (lv 0) (pa_cons (pe_ty "bool" T.m_bool) pa_nil)))) (pe_one (pe_chainU opU_le opU_le (lv 1) (lv 0) (lv 2)))))), ?_⟩
    obtain ⟨a, b, rfl, rfl, hk, wf, k⟩ := h
    refine ⟨_, isk_int hk, ?_⟩
    cases v with
    | int n =>
      refine ⟨_, isk_bool hk, ?_⟩
      refine iteC (fun h1 => ?_) (fun h1 => ?_)
      · refine bQ.same wf (Same.refl _) ?_
        have e : isWholeB (.int n) a b = decide (n ≤ b) := by
          show (decide (a ≤ n) && decide (n ≤ b)) = _
          rw [decide_eq_true h1, Bool.true_and]
        rw [← e]
        exact k
      · refine bQ.same wf (Same.refl _) ?_
        have e : isWholeB (.int n) a b = false := by
          show (decide (a ≤ n) && decide (n ≤ b)) = _
          rw [decide_eq_false h1, Bool.false_and]
        rw [← e]
        exact k
    | bl c =>
      refine ⟨_, isk_bool hk, ?_⟩
      exact bQ.same wf (Same.refl _) k
    | str z => exact bQ.same wf (Same.refl _) k
    | non => exact bQ.same wf (Same.refl _) k
    | ref p => exact bQ.same wf (Same.refl _) k
    | byt b => exact hk.elim
    | flt b => exact hk.elim
    | ty b => exact hk.elim

abbrev s_is_moment : Stmt := topS 9
abbrev N_is_moment : List Str := ["thing"]
theorem sc_is_moment : FnScope N_is_moment ["thing"] (defScope s_is_moment) := ⟨rfl, rfl, rfl, by decide +kernel, rfl, by decide +kernel, by decide +kernel⟩
def sp_is_moment (K : PySem.W.Frag) (c : Ad) : Sp := fun vs H Q E => arg1 (fun v => Kn K H v ∧ Wf H ∧ Q (.bl (isWholeB v 0 1000000000000)) H) vs
theorem ok_is_moment {P : Program} {w : World} {K : PySem.W.Frag} {mg : Str → Option Value} {base : Heap} {c : Ad} (T : Txt K mg c) : Ok P w K mg base 2 "is_moment" ["thing"] (sp_is_moment K c) := by
  refine okF T.f_is_moment sc_is_moment (fun vs H Q E h => ?_) (fun f cdv A outer sh H vs Q E hr h => ?_)
  · obtain ⟨v, rfl, h⟩ := arg1.ex h
    rfl
  · obtain ⟨v, rfl, h⟩ := arg1.ex h
    have tk : Takes (cxOf (L2.CX P w) P w K mg base N_is_moment "is_moment" (defScope s_is_moment) f cdv A outer sh H (bE H E)) (fun cls d _ H' => bE H E cls d H') := takes_of rfl rfl rfl rfl
    refine ⟨_, pss_one (ps_ret (pe_f (ok_is_whole (K := K) T) hr passL (pa_cons (lv 0) (pa_cons pe_int (pa_cons (pe_g T.g_MOST_MOMENT) pa_nil))))), ?_⟩
    obtain ⟨hk, wf, k⟩ := h
    exact ⟨0, 1000000000000, rfl, rfl, hk, wf, bQ.same wf (Same.refl _) k⟩

def ScrL (K : PySem.W.Frag) (H : Hp) (v : V) (ns : List Int) : Prop := ∃ a, v = .ref a ∧ SqL K H a (ns.map V.int) ∧ ns.length ≤ 63
theorem mixed_b {r m : Int} (h : 0 < m) : 0 ≤ r % m ∧ r % m < m := ⟨Int.emod_nonneg _ (by omega), Int.emod_lt_of_pos _ h⟩
theorem mul_b {x y : Int} {a b : Nat} (hx0 : 0 ≤ x) (hx : x < 2 ^ a) (hy0 : 0 ≤ y) (hy : y < 2 ^ b) (h0 : 0 < a) (h1 : 0 < b) (h : a + b ≤ 1000000) : CMulW x y := by
  have e1 : (2 : Int) ^ a = ((2 ^ a : Nat) : Int) := by simp
  have e2 : (2 : Int) ^ b = ((2 ^ b : Nat) : Int) := by simp
  refine wide_mul (a := a) (b := b) ?_ ?_ h0 h1 h
  · omega
  · omega
theorem div_b {x j : Int} {b : Nat} (h : 0 < j) (hb : j.natAbs < 2 ^ b) (h0 : 0 < b) (h9 : b ≤ 9000) : CDivW x j := wide_div h hb h0 h9
/-- small enough for a digit -/
def Bas (b : Int) : Prop := 0 < b ∧ b.natAbs.log2 < 9000
theorem bas_lt {b : Int} (h : 0 < b) (h2 : b < 2 ^ 200) : Bas b := ⟨h, by
  have e : b.natAbs < 2 ^ 200 := by omega
  exact Nat.lt_trans (PySem.Flt.log2_lt_of (by decide) e) (by decide)⟩
theorem log_le {x y : Nat} (h : x ≤ y) : x.log2 ≤ y.log2 := by
  by_cases hx : x = 0
  · subst hx; simp
  · exact (Nat.le_log2 (by omega)).2 (Nat.le_trans (Nat.log2_self_le hx) h)

abbrev s__law_cell_at : Stmt := topS 18
abbrev N__law_cell_at : List Str := ["_law_script", "_law_k"]
theorem sc__law_cell_at : FnScope N__law_cell_at ["_law_script", "_law_k"] (defScope s__law_cell_at) := ⟨rfl, rfl, rfl, by decide +kernel, rfl, by decide +kernel, by decide +kernel⟩
def sp__law_cell_at (K : PySem.W.Frag) (c : Ad) : Sp := fun vs H Q E => arg2 (fun s k => ∃ ns j, ScrL K H s ns ∧ k = .int j ∧ 0 ≤ j ∧ Wf H ∧ ∀ n, Q (.int n) H) vs
theorem ok__law_cell_at {P : Program} {w : World} {K : PySem.W.Frag} {mg : Str → Option Value} {base : Heap} {c : Ad} (T : Txt K mg c) : Ok P w K mg base 1 "_law_cell_at" ["_law_script", "_law_k"] (sp__law_cell_at K c) := by
  refine okF T.f__law_cell_at sc__law_cell_at (fun vs H Q E h => ?_) (fun f cdv A outer sh H vs Q E hr h => ?_)
  · obtain ⟨s, k, rfl, h⟩ := arg2.ex h
    rfl
  · obtain ⟨s, k, rfl, h⟩ := arg2.ex h
    have tk : Takes (cxOf (L2.CX P w) P w K mg base N__law_cell_at "_law_cell_at" (defScope s__law_cell_at) f cdv A outer sh H (bE H E)) (fun cls d _ H' => bE H E cls d H') := takes_of rfl rfl rfl rfl
    refine ⟨_, pss_cons (ps_if (pt_cmpU opU_lt (lv 1) (pe_callB (callU_len (K := K)) (by rfl) T.m_len (by decide +kernel) (pa_cons (lv 0) pa_nil)) (nomark _))
      (pss_one (ps_ret (pe_ix (ixU (K := K)) (lv 0) (lv 1) (fun _ _ => rfl)))) pss_nil)
      (pss_one (ps_ret pe_int)), ?_⟩
    obtain ⟨ns, j, ⟨a, rfl, hS, hl⟩, rfl, hj, wf, k⟩ := h
    refine .inl ⟨_, .inl hS, ?_⟩
    refine iteC (fun h1 => ?_) (fun h1 => ?_)
    · obtain ⟨v, hv, hm⟩ := at_lt hj h1
      obtain ⟨n, _, rfl⟩ := List.mem_map.mp hm
      exact ⟨_, _, .inl hS, hv, bQ.same wf (Same.refl _) (k n)⟩
    · exact bQ.same wf (Same.refl _) (k 0)

abbrev s__law_state : Stmt := topS 19
abbrev N__law_state : List Str := ["_law_cell", "_law_k"]
theorem sc__law_state : FnScope N__law_state ["_law_cell", "_law_k"] (defScope s__law_state) := ⟨rfl, rfl, rfl, by decide +kernel, rfl, by decide +kernel, by decide +kernel⟩
def sp__law_state (K : PySem.W.Frag) (c : Ad) : Sp := fun vs H Q E => arg2 (fun c k => ∃ n j, c = .int n ∧ k = .int j ∧ 0 ≤ j ∧ j < 100 ∧ Wf H ∧ ∀ p q a, H a = none → 0 ≤ p → Q (.ref a) (upd H a (stL p q))) vs
theorem ok__law_state {P : Program} {w : World} {K : PySem.W.Frag} {mg : Str → Option Value} {base : Heap} {c : Ad} (T : Txt K mg c) : Ok P w K mg base 1 "_law_state" ["_law_cell", "_law_k"] (sp__law_state K c) := by
  refine okF T.f__law_state sc__law_state (fun vs H Q E h => ?_) (fun f cdv A outer sh H vs Q E hr h => ?_)
  · obtain ⟨c, k, rfl, h⟩ := arg2.ex h
    rfl
  · obtain ⟨c, k, rfl, h⟩ := arg2.ex h
    have tk : Takes (cxOf (L2.CX P w) P w K mg base N__law_state "_law_state" (defScope s__law_state) f cdv A outer sh H (bE H E)) (fun cls d _ H' => bE H E cls d H') := takes_of rfl rfl rfl rfl
    refine ⟨_, pss_one (ps_ret (pe_lst (pa_cons (pe_op opU_mul (lv 0) (pe_callTy callU_int (by rfl) T.m_int (by decide +kernel) (pa_cons (pe_cmpR opU_ge (lv 0) (pe_op opU_pow pe_int pe_int) (nomark _)) pa_nil))) (pa_cons (pe_op (opU_add (K := K)) (pe_op opU_mod (lv 0) pe_int) (pe_op opU_mul pe_int (lv 1))) pa_nil)))), ?_⟩
    obtain ⟨n, j, rfl, rfl, h0, h1, wf, k⟩ := h
    refine ⟨⟨by decide, by decide, by decide⟩, ?_⟩
    refine ⟨.inl (.inr (by split <;> exact ⟨by decide, by decide⟩)), ?_⟩
    refine ⟨by decide, ?_⟩
    refine ⟨.inl (.inl ⟨by decide, by decide⟩), ?_⟩
    refine ⟨line_of (show 2 ≤ 16777216 by decide), fun a na => bQ.mk (wf.new trivial na) (k _ _ a na ?_)⟩
    split
    · rename_i e
      have e2 := of_decide_eq_true e
      have e3 : (10 : Int) ^ Int.toNat 18 = 1000000000000000000 := by decide
      omega
    · omega

abbrev s__law_mixed : Stmt := topS 20
abbrev N__law_mixed : List Str := ["_law_number"]
theorem sc__law_mixed : FnScope N__law_mixed ["_law_number"] (defScope s__law_mixed) := ⟨rfl, rfl, rfl, by decide +kernel, rfl, by decide +kernel, by decide +kernel⟩
def sp__law_mixed (K : PySem.W.Frag) (c : Ad) : Sp := fun vs H Q E => arg1 (fun x => ∃ n, x = .int n ∧ Wf H ∧ ∀ r, 0 ≤ r → Q (.int r) H) vs
theorem ok__law_mixed {P : Program} {w : World} {K : PySem.W.Frag} {mg : Str → Option Value} {base : Heap} {c : Ad} (T : Txt K mg c) : Ok P w K mg base 1 "_law_mixed" ["_law_number"] (sp__law_mixed K c) := by
  refine okF T.f__law_mixed sc__law_mixed (fun vs H Q E h => ?_) (fun f cdv A outer sh H vs Q E hr h => ?_)
  · obtain ⟨x, rfl, h⟩ := arg1.ex h
    rfl
  · obtain ⟨x, rfl, h⟩ := arg1.ex h
    have tk : Takes (cxOf (L2.CX P w) P w K mg base N__law_mixed "_law_mixed" (defScope s__law_mixed) f cdv A outer sh H (bE H E)) (fun cls d _ H' => bE H E cls d H') := takes_of rfl rfl rfl rfl
    refine ⟨_, pss_cons (ps_set (i := 0) sc__law_mixed.nd rfl (.inl rfl) (pe_op opU_mod (pe_op opU_mul (pe_op (opU_add (K := K)) (pe_op opU_mod (lv 0) pe_int) pe_int) pe_int) pe_int))
      (pss_cons (ps_set (i := 0) sc__law_mixed.nd rfl (.inl rfl) (pe_op opU_mod (pe_op opU_mul (lv 0) (pe_op (opU_add (K := K)) (pe_op opU_div (lv 0) pe_int) pe_int)) pe_int))
      (pss_one (ps_ret (pe_op opU_mod (pe_op opU_mul (pe_op (opU_add (K := K)) (lv 0) pe_int) (pe_op (opU_add (K := K)) (pe_op opU_div (lv 0) pe_int) pe_int)) pe_int)))), ?_⟩
    obtain ⟨n, rfl, wf, k⟩ := h
    have b1 := @mixed_b n 2147483647 (by decide)
    refine ⟨by decide, ?_⟩
    refine ⟨.inr <| mul_b (a := 32) (b := 16) (by omega) (by omega) (by decide) (by decide) (by decide) (by decide) (by decide), ?_⟩
    refine ⟨by decide, ?_⟩
    generalize hx : (n % 2147483647 + 1) * 48271 % 2147483647 = x
    have b2 : 0 ≤ x ∧ x < 2147483647 := by rw [← hx]; exact mixed_b (by decide)
    refine ⟨div_b (b := 10) (by decide) (by decide) (by decide) (by decide), ?_⟩
    refine ⟨.inr <| mul_b (a := 31) (b := 32) (by omega) (by omega) (by omega) (by omega) (by decide) (by decide) (by decide), ?_⟩
    refine ⟨by decide, ?_⟩
    generalize hy : x * (x / 1009 + 69621) % 2147483647 = y
    have b3 : 0 ≤ y ∧ y < 2147483647 := by rw [← hy]; exact mixed_b (by decide)
    refine ⟨div_b (b := 10) (by decide) (by decide) (by decide) (by decide), ?_⟩
    refine ⟨.inr <| mul_b (a := 32) (b := 32) (by omega) (by omega) (by omega) (by omega) (by decide) (by decide) (by decide), ?_⟩
    refine ⟨by decide, ?_⟩
    exact bQ.same wf (Same.refl _) (k _ (mixed_b (by decide)).1)

abbrev s__law_digit : Stmt := topS 21
abbrev N__law_digit : List Str := ["_law_state_here", "_law_base", "_law_found"]
theorem sc__law_digit : FnScope N__law_digit ["_law_state_here", "_law_base"] (defScope s__law_digit) := ⟨rfl, rfl, rfl, by decide +kernel, rfl, by decide +kernel, by decide +kernel⟩
def sp__law_digit (K : PySem.W.Frag) (c : Ad) : Sp := fun vs H Q E => arg2 (fun s b => ∃ a m, s = .ref a ∧ b = .int m ∧ St2 H a ∧ Bas m ∧ Wf H ∧ ∀ r p q, 0 ≤ r → r < m → 0 ≤ p → Q (.int r) (upd H a (stL p q))) vs
theorem ok__law_digit {P : Program} {w : World} {K : PySem.W.Frag} {mg : Str → Option Value} {base : Heap} {c : Ad} (T : Txt K mg c) : Ok P w K mg base 2 "_law_digit" ["_law_state_here", "_law_base"] (sp__law_digit K c) := by
  refine okF T.f__law_digit sc__law_digit (fun vs H Q E h => ?_) (fun f cdv A outer sh H vs Q E hr h => ?_)
  · obtain ⟨s, b, rfl, h⟩ := arg2.ex h
    rfl
  · obtain ⟨s, b, rfl, h⟩ := arg2.ex h
    have tk : Takes (cxOf (L2.CX P w) P w K mg base N__law_digit "_law_digit" (defScope s__law_digit) f cdv A outer sh H (bE H E)) (fun cls d _ H' => bE H E cls d H') := takes_of rfl rfl rfl rfl
    refine ⟨_, pss_cons (ps_if (pt_cmpU opU_gt (pe_ix (ixU (K := K)) (lv 0) pe_int (fun _ _ => rfl)) pe_int (nomark _))
      (pss_cons (ps_set (i := 2) sc__law_digit.nd rfl (.inl rfl) (pe_op opU_mod (pe_ix (ixU (K := K)) (lv 0) pe_int (fun _ _ => rfl)) (lv 1)))
      (pss_cons (ps_asg (pe_op opU_div (pe_ix (ixU (K := K)) (lv 0) pe_int (fun _ _ => rfl)) (lv 1)) (pg_sub (lv 0) pe_int setU))
      (pss_one (ps_ret (lv 2))))) pss_nil)
      (pss_cons (ps_asg (pe_f (ok__law_mixed (K := K) T) hr passL (pa_cons (pe_op (opU_add (K := K)) (pe_ix (ixU (K := K)) (lv 0) pe_int (fun _ _ => rfl)) pe_int) pa_nil)) (pg_sub (lv 0) pe_int setU))
      (pss_one (ps_ret (pe_op opU_mod (pe_op opU_div (pe_ix (ixU (K := K)) (lv 0) pe_int (fun _ _ => rfl)) pe_int) (lv 1))))), ?_⟩
    obtain ⟨a, m, rfl, rfl, ⟨p, q, e, hp⟩, ⟨hm, hb⟩, wf, k⟩ := h
    have s1 : ∀ {H : Hp} {p q : Int}, H a = some (stL p q) → SqL K H a [.int p, .int q] := fun h => .inl (.inl h)
    have g0 : ∀ {p q : Int}, atI [V.int p, V.int q] 0 = some (.int p) := fun {p q} => rfl
    have g1 : ∀ {p q : Int}, atI [V.int p, V.int q] 1 = some (.int q) := fun {p q} => rfl
    refine ⟨_, _, .inl (s1 e), g0, ?_⟩
    refine iteC (fun h1 => ?_) (fun h1 => ?_)
    · refine ⟨_, _, .inl (s1 e), g0, hm, ?_⟩
      refine ⟨_, _, .inl (s1 e), g0, ⟨hm, hb⟩, ?_⟩
      refine ⟨_, 0, e, rfl, ?_⟩
      exact bQ.mk (wf.at trivial e fun x z => by cases z) (k _ _ _ (mixed_b hm).1 (mixed_b hm).2 (Int.ediv_nonneg hp (by omega)))
    · refine ⟨_, _, .inl (s1 e), g1, ?_⟩
      refine ⟨_, rfl, wf, fun r hr => ?_⟩
      refine ⟨_, 1, e, rfl, ?_⟩
      have e1 : (upd H a (stL p r)) a = some (stL p r) := upd_same
      refine ⟨_, _, .inl (s1 e1), g1, div_b (b := 8) (by decide) (by decide) (by decide) (by decide), hm, ?_⟩
      exact bQ.mk (wf.at trivial e fun x z => by cases z) (k _ _ _ (mixed_b hm).1 (mixed_b hm).2 hp)

def isCountB : V → Bool | .int n => decide (0 ≤ n) | _ => false
def isWholeD : PyData → Int → Int → Bool
  | .int n, a, b => decide (a ≤ n) && decide (n ≤ b)
  | _, _, _ => false
theorem whole_dp {K : PySem.W.Frag} {H : Hp} {v : V} {d : PyData} (h : Dp K H v d) (a b : Int) : isWholeB v a b = isWholeD d a b := by cases h <;> rfl
def arePausesD : PyData → Bool
  | .tuple ds => decide ((ds.length : Int) ≤ 10) && ds.all fun d => isWholeD d 0 1000000
  | _ => false
def isOrderD : PyData → Bool
  | .str z => inV (.str z) [.str "put", .str "turns"]
  | _ => false
def isRuleD : PyData → Bool
  | .tuple [a, b, c, e, f] => isOrderD a && (isWholeD b 1 20 && isWholeD c 1 1000000) && (arePausesD e && isWholeD f 0 200)
  | _ => false
theorem all_whole {K : PySem.W.Frag} {H : Hp} : ∀ {xs : List V} {ds : List PyData}, DpAll K H xs ds → ∀ a b : Int, (xs.map fun x => isWholeB x a b) = ds.map fun d => isWholeD d a b
  | _, _, .nil, _, _ => rfl
  | _, _, .cons h r, a, b => by rw [List.map_cons, List.map_cons, whole_dp h, all_whole r]
theorem rule_len {ds : List PyData} (h : ds.length ≠ 5) : isRuleD (.tuple ds) = false := by
  match ds, h with
  | [], _ => rfl
  | [_], _ => rfl
  | [_, _], _ => rfl
  | [_, _, _], _ => rfl
  | [_, _, _, _], _ => rfl
  | [_, _, _, _, _], h => exact absurd rfl h
  | _ :: _ :: _ :: _ :: _ :: _ :: _, _ => rfl

/-- what tells a work -/
structure W5 where
  n : Str
  h : Str
  r : Int
  g : Option Str
  p : Int
def optV : Option Str → V | none => .non | some z => .str z
def optD : Option Str → PyData | none => .none | some z => .str z
def tupW (w : W5) : List V := [.str w.n, .str w.h, .int w.r, optV w.g, .int w.p]
def workD (w : W5) : PyData := .tuple [.str w.n, .str w.h, .int w.r, optD w.g, .int w.p]
def clsW (c : Ad) (w : W5) : Addr := match w.g with | none => c.Loose | some _ => c.Grouped
def fsW (w : W5) : List (Str × V) := fs_Work (.str w.n) (.str w.h) (.int w.r) (optV w.g) (.int w.p)
def WorkAt (c : Ad) (H : Hp) (x : Addr) (w : W5) : Prop := ∃ dx, H x = some (.ins (clsW c w) dx (fsW w))
theorem dp_opt {K : PySem.W.Frag} {H : Hp} : ∀ g : Option Str, Dp K H (optV g) (optD g)
  | none => .non
  | some z => .str z
theorem work_dp {K : PySem.W.Frag} {H : Hp} {p : Addr} {w : W5} (h : SqT K H p (tupW w)) : Dp K H (.ref p) (workD w) := .tup h (.cons (.str _) (.cons (.str _) (.cons (.int _) (.cons (dp_opt _) (.cons (.int _) .nil)))))
theorem work_at {K : PySem.W.Frag} {H : Hp} {v : V} {w : W5} (h : Dp K H v (workD w)) : ∃ p, v = .ref p ∧ SqT K H p (tupW w) := by
  cases h with
  | @tup p xs ds hT ha =>
    obtain ⟨x1, x2, x3, x4, x5, d1, d2, d3, d4, d5, rfl, e, g1, g2, g3, g4, g5⟩ := dpa5 ha (dpa_len ha)
    cases e
    cases g1
    cases g2
    cases g3
    cases g5
    have e4 : x4 = optV w.g := by
      cases q : w.g with
      | none =>
        rw [q] at g4
        cases g4
        rfl
      | some z =>
        rw [q] at g4
        cases g4
        rfl
    rw [e4] at hT
    exact ⟨p, rfl, hT⟩
def isNameD : PyData → Bool | .str z => isNameB (.str z) | _ => false
theorem name_dp {K : PySem.W.Frag} {H : Hp} {v : V} {d : PyData} (h : Dp K H v d) : isNameB v = isNameD d := by cases h <;> rfl
def grpD (g p : PyData) : Bool := match g with | .none => isWholeD p 0 0 | g => isNameD g && isWholeD p 0 1000000000
def isWorkD : PyData → Bool
  | .tuple [a, b, r, g, p] => isNameD a && (isNameD b && isWholeD r 0 1000000000000) && grpD g p
  | _ => false
theorem work_len {ds : List PyData} (h : ds.length ≠ 5) : isWorkD (.tuple ds) = false := by
  match ds, h with
  | [], _ => rfl
  | [_], _ => rfl
  | [_, _], _ => rfl
  | [_, _, _], _ => rfl
  | [_, _, _, _], _ => rfl
  | [_, _, _, _, _], h => exact absurd rfl h
  | _ :: _ :: _ :: _ :: _ :: _ :: _, _ => rfl
theorem name_str {d : PyData} (h : isNameD d = true) : ∃ z, d = .str z := by
  cases d with
  | str z => exact ⟨z, rfl⟩
  | _ => cases h
theorem whole_int {d : PyData} {a b : Int} (h : isWholeD d a b = true) : ∃ n, d = .int n := by
  cases d with
  | int n => exact ⟨n, rfl⟩
  | _ => cases h
theorem work_of_d {d : PyData} (h : isWorkD d = true) : ∃ w, d = workD w := by
  unfold isWorkD at h
  split at h
  · rename_i a b r g p
    rw [Bool.and_eq_true, Bool.and_eq_true, Bool.and_eq_true] at h
    obtain ⟨⟨h1, h2, h3⟩, h4⟩ := h
    obtain ⟨n, rfl⟩ := name_str h1
    obtain ⟨m, rfl⟩ := name_str h2
    obtain ⟨i, rfl⟩ := whole_int h3
    unfold grpD at h4
    split at h4
    · obtain ⟨j, rfl⟩ := whole_int h4
      exact ⟨⟨n, m, i, none, j⟩, rfl⟩
    · rw [Bool.and_eq_true] at h4
      obtain ⟨z, rfl⟩ := name_str h4.1
      obtain ⟨j, rfl⟩ := whole_int h4.2
      exact ⟨⟨n, m, i, some z, j⟩, rfl⟩
  · cases h
/-- the texts of a tuple are short -/
def SmD (d : PyData) : Prop := ∀ ds, d = .tuple ds → ∀ z, PyData.str z ∈ ds → z.length ≤ 1000000 ∧ sOk z
theorem short_at {K : PySem.W.Frag} {H : Hp} {v : V} {d : PyData} {ds : List PyData} (s : SmD (.tuple ds)) (m : d ∈ ds) (h : Dp K H v d) : Short v := fun z e => by
  subst e
  cases h
  exact s ds rfl z m
/-- what tells no work -/
def NoWk (K : PySem.W.Frag) (H : Hp) (v : V) : Prop := (∃ d, Dp K H v d ∧ SmD d ∧ isWorkD d = false) ∨ IsiV K H v "tuple" false
theorem not_b {b : Bool} (h : (!b) = true) : b = false := by simpa using h
theorem not_b' {b : Bool} (h : (!b) = false) : b = true := by simpa using h

abbrev s_is_work : Stmt := topS 15
abbrev N_is_work : List Str := ["told", "name", "house", "ready", "group", "place"]
theorem sc_is_work : FnScope N_is_work ["told"] (defScope s_is_work) := ⟨rfl, rfl, rfl, by decide +kernel, rfl, by decide +kernel, by decide +kernel⟩
def sp_is_work (K : PySem.W.Frag) (c : Ad) : Sp := fun vs H Q E => arg1 (fun v => Wf H ∧ ∃ r, ((∃ d, Dp K H v d ∧ SmD d ∧ r = isWorkD d) ∨ (IsiV K H v "tuple" false ∧ r = false)) ∧ Q (.bl r) H) vs
theorem ok_is_work {P : Program} {w : World} {K : PySem.W.Frag} {mg : Str → Option Value} {base : Heap} {c : Ad} (T : Txt K mg c) : Ok P w K mg base 3 "is_work" ["told"] (sp_is_work K c) := by
  refine okF T.f_is_work sc_is_work (fun vs H Q E h => ?_) (fun f cdv A outer sh H vs Q E hr h => ?_)
  · obtain ⟨v, rfl, h⟩ := arg1.ex h
    rfl
  · obtain ⟨v, rfl, h⟩ := arg1.ex h
    have tk : Takes (cxOf (L2.CX P w) P w K mg base N_is_work "is_work" (defScope s_is_work) f cdv A outer sh H (bE H E)) (fun cls d _ H' => bE H E cls d H') := takes_of rfl rfl rfl rfl
    refine ⟨_, pss_cons (ps_if (PW.pt (pw_or (pt_not (pt_truthU (K := K) (pe_callB (callU_isi (K := K)) (by rfl) T.m_isinstance (by decide +kernel) (pa_cons (lv 0) (pa_cons (pe_ty "tuple" T.m_tuple) pa_nil))) (by intro _; rfl))) (pw_or1 (pt_cmpU (opU_ne (K := K) hr) (pe_callB (callU_len (K := K)) (by rfl) T.m_len (by decide +kernel) (pa_cons (lv 0) pa_nil)) pe_int (nomark _)))))
      (pss_one (ps_ret pe_bl)) pss_nil)
      (pss_cons (ps_asg (lv 0) (pg_tupK (K := K) (n := 5) rfl (pgs_cons (pg_name (i := 1) sc_is_work.nd rfl (.inl rfl)) (pgs_cons (pg_name (i := 2) sc_is_work.nd rfl (.inl rfl)) (pgs_cons (pg_name (i := 3) sc_is_work.nd rfl (.inl rfl)) (pgs_cons (pg_name (i := 4) sc_is_work.nd rfl (.inl rfl)) (pgs_cons (pg_name (i := 5) sc_is_work.nd rfl (.inl rfl)) pgs_nil)))))))
      (pss_cons (ps_if (PW.pt (pw_or (pt_not (pt_truthU (K := K) (pe_f (ok_is_name (K := K) T) (hr.mono (by decide)) passL (pa_cons (lv 1) pa_nil)) (by intro _; rfl))) (pw_or (pt_not (pt_truthU (K := K) (pe_f (ok_is_name (K := K) T) (hr.mono (by decide)) passL (pa_cons (lv 2) pa_nil)) (by intro _; rfl))) (pw_or1 (pt_not (pt_truthU (K := K) (pe_f (ok_is_moment (K := K) T) hr passL (pa_cons (lv 3) pa_nil)) (by intro _; rfl)))))))
      (pss_one (ps_ret pe_bl)) pss_nil)
      (pss_cons (ps_if (pt_cmpU opU_is (lv 4) pe_non (nomark _))
      (pss_one (ps_ret (pe_f (ok_is_whole (K := K) T) (hr.mono (by decide)) passL (pa_cons (lv 5) (pa_cons pe_int (pa_cons pe_int pa_nil)))))) pss_nil)
      (pss_one (ps_ret (pe_andU (K := K) (pe_f (ok_is_name (K := K) T) (hr.mono (by decide)) passL (pa_cons (lv 4) pa_nil)) (pe_one (pe_f (ok_is_whole (K := K) T) (hr.mono (by decide)) passL (pa_cons (lv 5) (pa_cons pe_int (pa_cons (pe_g T.g_MOST_PLACE) pa_nil))))))))))), ?_⟩
    obtain ⟨wf, r, h, k⟩ := h
    rcases h with ⟨d, hd, sm, rfl⟩ | ⟨h, rfl⟩
    · refine ⟨_, isk_tup hd, ?_⟩
      cases hd with
      | @tup p xs ds hT ha =>
        refine .inl ⟨xs, .inr hT, ?_⟩
        have hl := dpa_len ha
        refine iteB (c := !decide (V.int xs.length = V.int 5)) (fun h1 => ?_) (fun h1 => ?_)
        · refine bQ.same wf (Same.refl _) ?_
          have e : isWorkD (.tuple ds) = false := work_len fun e => nd_t h1 (by rw [hl, e]; rfl)
          rw [← e]
          exact k
        · have h5 : xs.length = 5 := by
            have := V.int.inj (nd_f h1)
            omega
          obtain ⟨x1, x2, x3, x4, x5, d1, d2, d3, d4, d5, rfl, rfl, g1, g2, g3, g4, g5⟩ := dpa5 ha h5
          refine ⟨p, _, rfl, hT, rfl, _, _, rfl, _, _, rfl, _, _, rfl, _, _, rfl, _, _, rfl, rfl, ?_⟩
          have e : isWorkD (.tuple [d1, d2, d3, d4, d5]) = (isNameD d1 && (isNameD d2 && isWholeD d3 0 1000000000000) && grpD d4 d5) := rfl
          rw [e] at k
          refine ⟨kn_dp g1, short_at sm (by simp) g1, wf, ?_⟩
          rw [name_dp g1]
          refine iteB (c := !isNameD d1) (fun h => ?_) (fun h => ?_)
          · rw [not_b h, Bool.false_and, Bool.false_and] at k
            exact bQ.same wf (Same.refl _) k
          · rw [not_b' h, Bool.true_and] at k
            refine ⟨kn_dp g2, short_at sm (by simp) g2, wf, ?_⟩
            rw [name_dp g2]
            refine iteB (c := !isNameD d2) (fun h => ?_) (fun h => ?_)
            · rw [not_b h, Bool.false_and, Bool.false_and] at k
              exact bQ.same wf (Same.refl _) k
            · rw [not_b' h, Bool.true_and] at k
              refine ⟨kn_dp g3, wf, ?_⟩
              rw [whole_dp g3]
              refine iteB (c := !isWholeD d3 0 1000000000000) (fun h => ?_) (fun h => ?_)
              · rw [not_b h, Bool.false_and] at k
                exact bQ.same wf (Same.refl _) k
              · rw [not_b' h, Bool.true_and] at k
                cases g4 with
                | non =>
                  refine ⟨0, 0, rfl, rfl, kn_dp g5, wf, bQ.same wf (Same.refl _) ?_⟩
                  rw [whole_dp g5]
                  exact k
                | str z =>
                  refine ⟨trivial, short_at (K := K) (H := H) sm (by simp) (.str z), wf, ?_⟩
                  refine iteB (c := isNameB (.str z)) (fun h => ?_) (fun h => ?_)
                  · refine ⟨0, 1000000000, rfl, rfl, kn_dp g5, wf, bQ.same wf (Same.refl _) ?_⟩
                    have e2 : grpD (.str z) d5 = (isNameB (.str z) && isWholeD d5 0 1000000000) := rfl
                    rw [e2, h, Bool.true_and] at k
                    rw [whole_dp g5]
                    exact k
                  · refine bQ.same wf (Same.refl _) ?_
                    have e2 : grpD (.str z) d5 = (isNameB (.str z) && isWholeD d5 0 1000000000) := rfl
                    rw [e2, h, Bool.false_and] at k
                    rw [h]
                    exact k
                | bl b => exact ⟨trivial, short_at (K := K) (H := H) sm (by simp) (.bl b), wf, bQ.same wf (Same.refl _) k⟩
                | int b => exact ⟨trivial, short_at (K := K) (H := H) sm (by simp) (.int b), wf, bQ.same wf (Same.refl _) k⟩
                | lst q1 q2 => exact ⟨kn_dp (.lst q1 q2), short_at (K := K) (H := H) sm (by simp) (.lst q1 q2), wf, bQ.same wf (Same.refl _) k⟩
                | tup q1 q2 => exact ⟨kn_dp (.tup q1 q2), short_at (K := K) (H := H) sm (by simp) (.tup q1 q2), wf, bQ.same wf (Same.refl _) k⟩
      | non => exact bQ.same wf (Same.refl _) k
      | bl _ => exact bQ.same wf (Same.refl _) k
      | int _ => exact bQ.same wf (Same.refl _) k
      | str _ => exact bQ.same wf (Same.refl _) k
      | lst _ _ => exact bQ.same wf (Same.refl _) k
    · exact ⟨_, h, bQ.same wf (Same.refl _) k⟩

abbrev s_Work___init__ : Stmt := inClass (topS 12) 0
abbrev N_Work___init__ : List Str := ["self", "name", "house", "ready", "group", "place"]
theorem sc_Work___init__ : FnScope N_Work___init__ ["self", "name", "house", "ready", "group", "place"] (defScope s_Work___init__) := ⟨rfl, rfl, rfl, by decide +kernel, rfl, by decide +kernel, by decide +kernel⟩
def cr_Work___init__ (c : Ad) (C : Addr) : Prop := C = c.Loose ∨ C = c.Grouped
def sp_Work___init__ (K : PySem.W.Frag) (c : Ad) (C : Addr) : Sp := fun vs H Q E => arg6 (fun self w1 w2 w3 w4 w5 => ∃ x dx, self = .ref x ∧ H x = some (.ins C dx []) ∧ Wf H ∧ Q .non (upd H x (.ins C dx (fs_Work w1 w2 w3 w4 w5)))) vs
theorem ok_Work___init__ {P : Program} {w : World} {K : PySem.W.Frag} {mg : Str → Option Value} {base : Heap} {c : Ad} (T : Txt K mg c) {x : Str} {C : Addr} (hx : x = "Loose" ∧ C = c.Loose ∨ x = "Grouped" ∧ C = c.Grouped) : OkI P w K mg base 1 x C ["self", "name", "house", "ready", "group", "place"] (sp_Work___init__ K c C) := by
  have F : MkAt K mg x C "Work.__init__" s_Work___init__ ["self", "name", "house", "ready", "group", "place"] ∧ cr_Work___init__ c C := by
    rcases hx with ⟨rfl, rfl⟩ | ⟨rfl, rfl⟩
    · exact ⟨T.i_Loose, (.inl rfl)⟩
    · exact ⟨T.i_Grouped, (.inr rfl)⟩
  obtain ⟨F, hC⟩ := F
  have cl : Cls K C := by
    rcases hC with rfl | rfl
    · exact T.o_Loose.cl
    · exact T.o_Grouped.cl
  have n_name : NoAttr K C "name" := by
    rcases hC with rfl | rfl
    · exact T.n_Loose_name
    · exact T.n_Grouped_name
  have n_house : NoAttr K C "house" := by
    rcases hC with rfl | rfl
    · exact T.n_Loose_house
    · exact T.n_Grouped_house
  have n_ready : NoAttr K C "ready" := by
    rcases hC with rfl | rfl
    · exact T.n_Loose_ready
    · exact T.n_Grouped_ready
  have n_group : NoAttr K C "group" := by
    rcases hC with rfl | rfl
    · exact T.n_Loose_group
    · exact T.n_Grouped_group
  have n_place : NoAttr K C "place" := by
    rcases hC with rfl | rfl
    · exact T.n_Loose_place
    · exact T.n_Grouped_place
  refine okI F sc_Work___init__ (fun vs H Q E h => ?_) (fun f cdv A outer sh H vs Q E hr h => ?_)
  · obtain ⟨self, w1, w2, w3, w4, w5, rfl, h⟩ := arg6.ex h
    rfl
  · obtain ⟨self, w1, w2, w3, w4, w5, rfl, h⟩ := arg6.ex h
    have tk : Takes (cxOf (L2.CX P w) P w K mg base N_Work___init__ "Work.__init__" (defScope s_Work___init__) f cdv A outer sh H (bE H E)) (fun cls d _ H' => bE H E cls d H') := takes_of rfl rfl rfl rfl
    refine ⟨_, pss_cons (ps_fld (lv 0) (lv 1) rfl)
      (pss_cons (ps_fld (lv 0) (lv 2) rfl)
      (pss_cons (ps_fld (lv 0) (lv 3) rfl)
      (pss_cons (ps_fld (lv 0) (lv 4) rfl)
      (pss_one (ps_fld (lv 0) (lv 5) rfl))))), ?_⟩
    obtain ⟨x, dx, rfl, hx, wf, k⟩ := h
    refine ⟨x, C, dx, [], rfl, hx, cl, n_name, (by show 0 < 1000; decide), ?_⟩
    rw [show putF ("name" : Str) w1 [] = [(("name" : Str), w1)] from by kernel_rfl]
    refine ⟨x, C, dx, [(("name" : Str), w1)], rfl, upd_same, cl, n_house, (by show 1 < 1000; decide), ?_⟩
    rw [upd_upd]
    rw [show putF ("house" : Str) w2 [(("name" : Str), w1)] = [(("name" : Str), w1), (("house" : Str), w2)] from by kernel_rfl]
    refine ⟨x, C, dx, [(("name" : Str), w1), (("house" : Str), w2)], rfl, upd_same, cl, n_ready, (by show 2 < 1000; decide), ?_⟩
    rw [upd_upd]
    rw [show putF ("ready" : Str) w3 [(("name" : Str), w1), (("house" : Str), w2)] = [(("name" : Str), w1), (("house" : Str), w2), (("ready" : Str), w3)] from by kernel_rfl]
    refine ⟨x, C, dx, [(("name" : Str), w1), (("house" : Str), w2), (("ready" : Str), w3)], rfl, upd_same, cl, n_group, (by show 3 < 1000; decide), ?_⟩
    rw [upd_upd]
    rw [show putF ("group" : Str) w4 [(("name" : Str), w1), (("house" : Str), w2), (("ready" : Str), w3)] = [(("name" : Str), w1), (("house" : Str), w2), (("ready" : Str), w3), (("group" : Str), w4)] from by kernel_rfl]
    refine ⟨x, C, dx, [(("name" : Str), w1), (("house" : Str), w2), (("ready" : Str), w3), (("group" : Str), w4)], rfl, upd_same, cl, n_place, (by show 4 < 1000; decide), ?_⟩
    rw [upd_upd]
    rw [show putF ("place" : Str) w5 [(("name" : Str), w1), (("house" : Str), w2), (("ready" : Str), w3), (("group" : Str), w4)] = [(("name" : Str), w1), (("house" : Str), w2), (("ready" : Str), w3), (("group" : Str), w4), (("place" : Str), w5)] from by kernel_rfl]
    exact bQ.mk (wf.ins hx) k

abbrev s_work_of : Stmt := topS 16
abbrev N_work_of : List Str := ["told", "name", "house", "ready", "group", "place"]
theorem sc_work_of : FnScope N_work_of ["told"] (defScope s_work_of) := ⟨rfl, rfl, rfl, by decide +kernel, rfl, by decide +kernel, by decide +kernel⟩
def sp_work_of (K : PySem.W.Frag) (c : Ad) : Sp := fun vs H Q E => arg1 (fun v => Wf H ∧ ((∃ w, Dp K H v (workD w) ∧ SmD (workD w) ∧ isWorkD (workD w) = true ∧ ∀ x H', H x = none → Same H H' → Wf H' → WorkAt c H' x w → Q (.ref x) H') ∨ (NoWk K H v ∧ E (.ref c.NoWork) none H))) vs
theorem ok_work_of {P : Program} {w : World} {K : PySem.W.Frag} {mg : Str → Option Value} {base : Heap} {c : Ad} (T : Txt K mg c) : Ok P w K mg base 4 "work_of" ["told"] (sp_work_of K c) := by
  refine okF T.f_work_of sc_work_of (fun vs H Q E h => ?_) (fun f cdv A outer sh H vs Q E hr h => ?_)
  · obtain ⟨v, rfl, h⟩ := arg1.ex h
    rfl
  · obtain ⟨v, rfl, h⟩ := arg1.ex h
    have tk : Takes (cxOf (L2.CX P w) P w K mg base N_work_of "work_of" (defScope s_work_of) f cdv A outer sh H (bE H E)) (fun cls d _ H' => bE H E cls d H') := takes_of rfl rfl rfl rfl
    refine ⟨_, pss_cons (ps_if (pt_not (pt_truthU (K := K) (pe_f (ok_is_work (K := K) T) hr passL (pa_cons (lv 0) pa_nil)) (by intro _; rfl)))
      (pss_one (ps_rai T.x_NoWork tk)) pss_nil)
      (pss_cons (ps_asg (lv 0) (pg_tupK (K := K) (n := 5) rfl (pgs_cons (pg_name (i := 1) sc_work_of.nd rfl (.inl rfl)) (pgs_cons (pg_name (i := 2) sc_work_of.nd rfl (.inl rfl)) (pgs_cons (pg_name (i := 3) sc_work_of.nd rfl (.inl rfl)) (pgs_cons (pg_name (i := 4) sc_work_of.nd rfl (.inl rfl)) (pgs_cons (pg_name (i := 5) sc_work_of.nd rfl (.inl rfl)) pgs_nil)))))))
      (pss_cons (ps_if (pt_cmpU opU_is (lv 4) pe_non (nomark _))
      (pss_one (ps_ret (pe_mkS (ok_Work___init__ (K := K) T (x := "Loose") (.inl ⟨rfl, rfl⟩)) (hr.mono (by decide)) tk (pa_cons (lv 1) (pa_cons (lv 2) (pa_cons (lv 3) (pa_cons (lv 4) (pa_cons (lv 5) pa_nil)))))))) pss_nil)
      (pss_one (ps_ret (pe_mkS (ok_Work___init__ (K := K) T (x := "Grouped") (.inr ⟨rfl, rfl⟩)) (hr.mono (by decide)) tk (pa_cons (lv 1) (pa_cons (lv 2) (pa_cons (lv 3) (pa_cons (lv 4) (pa_cons (lv 5) pa_nil)))))))))), ?_⟩
    obtain ⟨wf, h⟩ := h
    rcases h with ⟨w, hd, sm, hw, k⟩ | ⟨h, k⟩
    · refine ⟨wf, _, .inl ⟨_, hd, sm, rfl⟩, ?_⟩
      rw [hw]
      obtain ⟨p, rfl, hT⟩ := work_at hd
      refine ⟨p, _, rfl, hT, rfl, _, _, rfl, _, _, rfl, _, _, rfl, _, _, rfl, _, _, rfl, rfl, ?_⟩
      have mk : ∀ (C x dx : Addr) (u : V), C = clsW c w → u = optV w.g → H x = none → H dx = none → dx ≠ x → bQ H Q (.ref x) (upd (upd (upd H dx (.own x)) x (.ins C dx [])) x (.ins C dx (fs_Work (.str w.n) (.str w.h) (.int w.r) u (.int w.p)))) := fun C x dx u e1 e2 nx nd ne => by
        subst e1
        subst e2
        rw [upd_upd]
        have w2 : Wf (upd (upd H dx (.own x)) x (.ins (clsW c w) dx (fsW w))) := wf.made nx nd ne
        exact bQ.mk w2 (k x _ nx (fun b o e => by rw [upd_ne (ne_of_none e nx), upd_ne (ne_of_none e nd)]; exact e) w2 ⟨dx, upd_same⟩)
      cases hg : w.g with
      | none =>
        intro x dx nx nd ne
        refine ⟨x, dx, rfl, upd_same, wf.made nx nd ne, rfl, ?_⟩
        exact mk c.Loose x dx .non (by unfold clsW; rw [hg]) (by rw [hg] <;> rfl) nx nd ne
      | some z =>
        intro x dx nx nd ne
        refine ⟨x, dx, rfl, upd_same, wf.made nx nd ne, rfl, ?_⟩
        exact mk c.Grouped x dx (.str z) (by unfold clsW; rw [hg]) (by rw [hg] <;> rfl) nx nd ne
    · refine ⟨wf, false, ?_, ?_⟩
      · rcases h with ⟨d, h1, h2, h3⟩ | h
        · exact .inl ⟨d, h1, h2, h3.symm⟩
        · exact .inr ⟨h, rfl⟩
      · exact bE.same wf (Same.refl _) k

abbrev s_Work_told : Stmt := inClass (topS 12) 1
abbrev N_Work_told : List Str := ["self"]
theorem sc_Work_told : FnScope N_Work_told ["self"] (defScope s_Work_told) := ⟨rfl, rfl, rfl, by decide +kernel, rfl, by decide +kernel, by decide +kernel⟩
def cr_Work_told (c : Ad) (C : Addr) : Prop := C = c.Loose ∨ C = c.Grouped
def sp_Work_told (K : PySem.W.Frag) (c : Ad) (C : Addr) : Sp := fun vs H Q E => arg1 (fun v => ∃ x w dx, v = .ref x ∧ H x = some (.ins C dx (fsW w)) ∧ Wf H ∧ ∀ p, H p = none → Q (.ref p) (upd H p (.tup (tupW w)))) vs
theorem ok_Work_told {P : Program} {w : World} {K : PySem.W.Frag} {mg : Str → Option Value} {base : Heap} {c : Ad} (T : Txt K mg c) {C : Addr} (hC : cr_Work_told c C) : OkM P w K mg base 1 C "told" ["self"] (sp_Work_told K c C) := by
  have F : MtAt K C "told" "Work.told" s_Work_told ["self"] := by
    rcases hC with rfl | rfl
    · exact T.m_Loose_told
    · exact T.m_Grouped_told
  have cl : Cls K C := by
    rcases hC with rfl | rfl
    · exact T.o_Loose.cl
    · exact T.o_Grouped.cl
  have n_name : NoAttr K C "name" := by
    rcases hC with rfl | rfl
    · exact T.n_Loose_name
    · exact T.n_Grouped_name
  have n_house : NoAttr K C "house" := by
    rcases hC with rfl | rfl
    · exact T.n_Loose_house
    · exact T.n_Grouped_house
  have n_ready : NoAttr K C "ready" := by
    rcases hC with rfl | rfl
    · exact T.n_Loose_ready
    · exact T.n_Grouped_ready
  have n_group : NoAttr K C "group" := by
    rcases hC with rfl | rfl
    · exact T.n_Loose_group
    · exact T.n_Grouped_group
  have n_place : NoAttr K C "place" := by
    rcases hC with rfl | rfl
    · exact T.n_Loose_place
    · exact T.n_Grouped_place
  refine okM F sc_Work_told (fun vs H Q E h => ?_) (fun f cdv A outer sh H vs Q E hr h => ?_)
  · obtain ⟨v, rfl, h⟩ := arg1.ex h
    rfl
  · obtain ⟨v, rfl, h⟩ := arg1.ex h
    have tk : Takes (cxOf (L2.CX P w) P w K mg base N_Work_told "Work.told" (defScope s_Work_told) f cdv A outer sh H (bE H E)) (fun cls d _ H' => bE H E cls d H') := takes_of rfl rfl rfl rfl
    refine ⟨_, pss_one (ps_ret (pe_tup (pa_cons (pe_fldK (K := K) (lv 0) rfl) (pa_cons (pe_fldK (K := K) (lv 0) rfl) (pa_cons (pe_fldK (K := K) (lv 0) rfl) (pa_cons (pe_fldK (K := K) (lv 0) rfl) (pa_cons (pe_fldK (K := K) (lv 0) rfl) pa_nil))))))), ?_⟩
    obtain ⟨x, w, dx, rfl, hx, wf, k⟩ := h
    refine ⟨x, C, dx, _, _, rfl, hx, cl, n_name, rfl, ?_⟩
    refine ⟨x, C, dx, _, _, rfl, hx, cl, n_house, rfl, ?_⟩
    refine ⟨x, C, dx, _, _, rfl, hx, cl, n_ready, rfl, ?_⟩
    refine ⟨x, C, dx, _, _, rfl, hx, cl, n_group, rfl, ?_⟩
    refine ⟨x, C, dx, _, _, rfl, hx, cl, n_place, rfl, ?_⟩
    refine ⟨line_of (show 5 ≤ 16777216 by decide), fun p np => ?_⟩
    exact bQ.mk (wf.new trivial np) (k p np)
theorem okm_Loose_told {P : Program} {w : World} {K : PySem.W.Frag} {mg : Str → Option Value} {base : Heap} {c : Ad} (T : Txt K mg c) : ∀ C, cs_Loose c C → OkM P w K mg base 1 C "told" ["self"] (sp_Work_told K c C) := fun C h => ok_Work_told T (by
  have e : C = c.Loose := h
  exact (.inl e))
theorem okm_Grouped_told {P : Program} {w : World} {K : PySem.W.Frag} {mg : Str → Option Value} {base : Heap} {c : Ad} (T : Txt K mg c) : ∀ C, cs_Grouped c C → OkM P w K mg base 1 C "told" ["self"] (sp_Work_told K c C) := fun C h => ok_Work_told T (by
  have e : C = c.Grouped := h
  exact (.inr e))

theorem lets_ok : ∀ c ∈ lets, c < 0x110000 := by decide +kernel
/-- a name -/
def NameS (z : Str) : Prop := isNameB (.str z) = true ∧ sOk z
theorem NameS.len {z : Str} (h : NameS z) : 1 ≤ z.length ∧ z.length ≤ 8 := by
  have q : (decide (1 ≤ (z.length : Int)) && decide ((z.length : Int) ≤ 8) && z.cps.toList.all fun c => decide (c ∈ lets)) = true := h.1
  rw [Bool.and_eq_true, Bool.and_eq_true, decide_eq_true_eq, decide_eq_true_eq] at q
  omega
theorem NameS.of {cs : List Nat} (h1 : 1 ≤ cs.length) (h8 : cs.length ≤ 8) (h : ∀ c ∈ cs, c ∈ lets) : NameS ⟨cs.toArray⟩ := by
  refine ⟨?_, sOk_list fun c hc => lets_ok c (h c hc)⟩
  have e : (⟨cs.toArray⟩ : Str).length = cs.length := List.size_toArray ..
  show (decide (1 ≤ (((⟨cs.toArray⟩ : Str).length : Nat) : Int)) && decide ((((⟨cs.toArray⟩ : Str).length : Nat) : Int) ≤ 8) && cs.all fun c => decide (c ∈ lets)) = true
  rw [e, decide_eq_true (by omega), decide_eq_true (by omega), Bool.true_and, Bool.true_and, List.all_eq_true]
  intro c hc
  exact decide_eq_true (h c hc)

abbrev s__law_name : Stmt := topS 22
abbrev N__law_name : List Str := ["_law_state_here", "_law_letters", "_law_k"]
theorem sc__law_name : FnScope N__law_name ["_law_state_here"] (defScope s__law_name) := ⟨rfl, rfl, rfl, by decide +kernel, rfl, by decide +kernel, by decide +kernel⟩
def sp__law_name (K : PySem.W.Frag) (c : Ad) : Sp := fun vs H Q E => arg1 (fun s => ∃ a, s = .ref a ∧ St2 H a ∧ Wf H ∧ ∀ z p q, NameS z → 0 ≤ p → Q (.str z) (upd H a (stL p q))) vs
theorem ok__law_name {P : Program} {w : World} {K : PySem.W.Frag} {mg : Str → Option Value} {base : Heap} {c : Ad} (T : Txt K mg c) : Ok P w K mg base 3 "_law_name" ["_law_state_here"] (sp__law_name K c) := by
  refine okF T.f__law_name sc__law_name (fun vs H Q E h => ?_) (fun f cdv A outer sh H vs Q E hr h => ?_)
  · obtain ⟨s, rfl, h⟩ := arg1.ex h
    rfl
  · obtain ⟨s, rfl, h⟩ := arg1.ex h
    have tk : Takes (cxOf (L2.CX P w) P w K mg base N__law_name "_law_name" (defScope s__law_name) f cdv A outer sh H (bE H E)) (fun cls d _ H' => bE H E cls d H') := takes_of rfl rfl rfl rfl
    refine ⟨_, pss_cons (ps_set (i := 1) sc__law_name.nd rfl (.inr rfl) pe_str)
      (pss_one (ps_ret (pe_join pe_str (pe_lc (own := [("_law_k", 2)]) (g := gName 2) rfl sc__law_name.nd (pi_range1 (by rfl) T.m_range (pa_cons (pe_op (opU_add (K := K)) pe_int (pe_f (ok__law_digit (K := K) T) hr passL (pa_cons (lv 0) (pa_cons pe_int pa_nil)))) pa_nil)) (blkOk_by (own := [("_law_k", 2)]) (N := N__law_name) (sc := defScope s__law_name) (by decide +kernel)) (fun _ _ _ _ _ => pg_name (i := 2) sc__law_name.nd rfl (.inl rfl)) (fun _ _ _ _ _ => pts_nil) (fun _ _ _ _ _ => pe_ix (ixU (K := K)) (lv 1) (pe_f (ok__law_digit (K := K) T) hr passL (pa_cons (lv 0) (pa_cons pe_int pa_nil))) (fun _ _ => rfl)))))), ?_⟩
    obtain ⟨a, rfl, s0, wf, k⟩ := h
    have d0 := Dr.refl s0 wf
    refine ⟨⟨_, rfl⟩, ?_⟩
    refine ⟨a, 8, rfl, rfl, s0, bas_lt (by decide) (by decide), wf, fun r2 p2 q2 g2 l2 n2 => ?_⟩
    have d2 := d0.drawn (q := q2) n2
    generalize upd H a (stL p2 q2) = H2 at d2 ⊢
    refine ⟨_, rfl, by omega, by omega, fun D nD => ?_⟩
    have nDa : D ≠ a := fun e => by
      obtain ⟨_, _, e1, _⟩ := d2.st
      rw [← e, nD] at e1
      cases e1
    refine lc_range (lo := 0) (n := (1 + r2).toNat) (fun i H' => ∃ cs : List Nat, Dr a H2 H' ∧ H' D = some (.lst (cs.map fun c => V.str ⟨#[c]⟩)) ∧ cs.length = i ∧ ∀ c ∈ cs, c ∈ lets) ⟨[], (Dr.refl d2.st d2.wf).new nD trivial, upd_same, rfl, by simp⟩ (fun i H' hi hp => ?_) (fun H' hp => ?_)
    · obtain ⟨cs, d, eD, hl, hcs⟩ := hp
      refine ⟨rfl, ?_⟩
      refine ⟨a, 26, rfl, rfl, d.st, bas_lt (by decide) (by decide), d.wf, fun r p q g l n => ?_⟩
      obtain ⟨c, hc, hcm⟩ := at_lt (xs := lets) g (by exact l)
      refine ⟨line_of (show 26 ≤ 16777216 by decide), c, hc, _, (upd_ne nDa).trans eD, line_lt ?_, cs ++ [c], ?_, ?_, ?_, ?_⟩
      · rw [List.length_map]
        omega
      · exact (d.drawn (q := q) n).put nD ((upd_ne nDa).trans eD) (fun _ z => by cases z) trivial nDa
      · rw [upd_same, List.map_append]
        rfl
      · rw [List.length_append, hl]
        rfl
      · intro x hx
        rcases List.mem_append.mp hx with h | h
        · exact hcs x h
        · rw [List.mem_singleton.mp h]
          exact hcm
    · obtain ⟨cs, d, eD, hl, hcs⟩ := hp
      have d3 := d2.trans d
      refine ⟨_, D, cs.map fun c => ⟨#[c]⟩, rfl, rfl, .inl (.inl (.inl ?_)), ?_, ?_⟩
      · rw [eD, List.map_map]
        rfl
      · have e1 : ((cs.map fun c => (⟨#[c]⟩ : Str)).map (·.length)).sum = cs.length := by
          clear eD hl hcs
          induction cs with
          | nil => rfl
          | cons c r ih =>
            rw [List.map_cons, List.map_cons, List.sum_cons, ih, List.length_cons]
            exact Nat.add_comm 1 _
        rw [e1, List.length_map]
        show cs.length + cs.length * 0 ≤ 16777216
        omega
      · have e2 : Txt.join (PySem.Str.ofString "") (cs.map fun c => (⟨#[c]⟩ : Str)) = ⟨cs.toArray⟩ := join_ones cs
        rw [e2]
        exact d3.done wf s0 fun p q h0 => k _ p q (NameS.of (by omega) (by omega) hcs) h0

/-- a work that is one -/
def WkOk (w : W5) : Prop := isWorkD (workD w) = true ∧ NameS w.n ∧ NameS w.h ∧ ∀ z, w.g = some z → NameS z
theorem WkOk.sm {w : W5} (h : WkOk w) : SmD (workD w) := fun ds e z m => by
  cases e
  have f : ∀ {x : Str}, NameS x → x.length ≤ 1000000 ∧ sOk x := fun q => ⟨by have := q.len; omega, q.2⟩
  simp only [List.mem_cons, List.not_mem_nil, or_false, reduceCtorEq, false_or] at m
  rcases m with m | m | m
  · cases m
    exact f h.2.1
  · cases m
    exact f h.2.2.1
  · cases q : w.g with
    | none =>
      rw [q] at m
      cases m
    | some x =>
      rw [q] at m
      cases m
      exact f (h.2.2.2 _ q)
theorem name_d {z : Str} (h : NameS z) : isNameD (.str z) = true := h.1
theorem whole_d {n a b : Int} (x : a ≤ n) (y : n ≤ b) : isWholeD (.int n) a b = true := by
  show (decide (a ≤ n) && decide (n ≤ b)) = true
  rw [decide_eq_true x, decide_eq_true y]
  rfl
theorem WkOk.loose {n h : Str} {r : Int} (a : NameS n) (b : NameS h) (c : 0 ≤ r) (d : r ≤ 1000000000000) : WkOk ⟨n, h, r, none, 0⟩ := by
  refine ⟨?_, a, b, fun z e => by cases e⟩
  show (isNameD (.str n) && (isNameD (.str h) && isWholeD (.int r) 0 1000000000000) && isWholeD (.int 0) 0 0) = true
  rw [name_d a, name_d b, whole_d c d]
  rfl
theorem WkOk.grouped {n h g : Str} {r p : Int} (a : NameS n) (b : NameS h) (c : 0 ≤ r) (d : r ≤ 1000000000000) (e : NameS g) (f : 0 ≤ p) (i : p ≤ 1000000000) : WkOk ⟨n, h, r, some g, p⟩ := by
  refine ⟨?_, a, b, fun z q => by cases q; exact e⟩
  show (isNameD (.str n) && (isNameD (.str h) && isWholeD (.int r) 0 1000000000000) && (isNameD (.str g) && isWholeD (.int p) 0 1000000000)) = true
  rw [name_d a, name_d b, whole_d c d, name_d e, whole_d f i]
  rfl
theorem work_shaped {w : W5} (h : WkOk w) : SeqAt.shaped (workD w) = true := by
  obtain ⟨_, a, b, g⟩ := h
  have a2 : PyData.strOk w.n = true := a.2
  have b2 : PyData.strOk w.h = true := b.2
  unfold workD SeqAt.shaped
  cases e : w.g with
  | none => simp [PyData.canLay0, PyData.canLayAll0, optD, a2, b2, PyData.depth, PyData.depthAll]
  | some z =>
    have g2 : PyData.strOk z = true := (g z e).2
    simp [PyData.canLay0, PyData.canLayAll0, optD, a2, b2, g2, PyData.depth, PyData.depthAll]
theorem work_eq {w : W5} (h : WkOk w) : PyData.eqv (workD w) (workD w) = true := SeqAt.eqv_refl _ (by
  have := work_shaped h
  unfold SeqAt.shaped at this
  rw [Bool.and_eq_true] at this
  exact this.1)
theorem e12 : (10 : Int) ^ Int.toNat 12 = 1000000000000 := by decide
theorem e9 : (10 : Int) ^ Int.toNat 9 = 1000000000 := by decide

theorem WkOk.place {w : W5} (h : WkOk w) : 0 ≤ w.p ∧ w.p ≤ 1000000000 := by
  have q := h.1
  have f : ∀ {b : Int}, isWholeD (.int w.p) 0 b = true → 0 ≤ w.p ∧ w.p ≤ b := fun {b} z => by
    have z' : (decide (0 ≤ w.p) && decide (w.p ≤ b)) = true := z
    rw [Bool.and_eq_true] at z'
    exact ⟨of_decide_eq_true z'.1, of_decide_eq_true z'.2⟩
  have q' : (isNameD (.str w.n) && (isNameD (.str w.h) && isWholeD (.int w.r) 0 1000000000000) && grpD (optD w.g) (.int w.p)) = true := q
  rw [Bool.and_eq_true] at q'
  have g := q'.2
  cases e : w.g with
  | none =>
    rw [e] at g
    have := f (b := 0) g
    omega
  | some z =>
    rw [e] at g
    have g2 : (isNameD (.str z) && isWholeD (.int w.p) 0 1000000000) = true := g
    rw [Bool.and_eq_true] at g2
    exact f g2.2

def gB (w : W5) : Bool := w.g.isNone
section
variable {K : PySem.W.Frag} {mg : Str → Option Value} {c : Ad}
theorem clsW_cl (T : Txt K mg c) (w : W5) : Cls K (clsW c w) := by
  unfold clsW
  cases w.g with
  | none => exact T.o_Loose.cl
  | some z => exact T.o_Grouped.cl
theorem clsW_n (T : Txt K mg c) (w : W5) : NoAttr K (clsW c w) "name" ∧ NoAttr K (clsW c w) "house" ∧ NoAttr K (clsW c w) "ready" ∧ NoAttr K (clsW c w) "group" ∧ NoAttr K (clsW c w) "place" := by
  unfold clsW
  cases w.g with
  | none => exact ⟨T.n_Loose_name, T.n_Loose_house, T.n_Loose_ready, T.n_Loose_group, T.n_Loose_place⟩
  | some z => exact ⟨T.n_Grouped_name, T.n_Grouped_house, T.n_Grouped_ready, T.n_Grouped_group, T.n_Grouped_place⟩
theorem clsW_ty (T : Txt K mg c) {H : Hp} {w : W5} {x dx : Addr} {fs : List (Str × V)} (h : H x = some (.ins (clsW c w) dx fs)) : TyX K H (.ref x) (.ref (clsW c w)) := by
  unfold clsW at h ⊢
  cases q : w.g with
  | none =>
    rw [q] at h
    exact T.o_Loose.ty h
  | some z =>
    rw [q] at h
    exact T.o_Grouped.ty h
theorem clsW_k (T : Txt K mg c) (w : W5) : PySem.W.kitOne K (.ref (clsW c w)) (.ref c.Work) = some true ∧ PySem.W.kitOne K (.ref (clsW c w)) (.ref c.Loose) = some (gB w) ∧ PySem.W.kitOne K (.ref (clsW c w)) (.ref c.Grouped) = some (!gB w) := by
  unfold clsW gB
  cases w.g with
  | none => exact ⟨T.s_Loose_Work, T.s_Loose_Loose, T.s_Loose_Grouped⟩
  | some z => exact ⟨T.s_Grouped_Work, T.s_Grouped_Loose, T.s_Grouped_Grouped⟩
end
theorem optV_non (w : W5) : (false != decide (optV w.g = V.non)) = gB w := by
  unfold gB
  cases w.g <;> rfl

theorem WorkAt.keep {c : Ad} {H H' : Hp} {x : Addr} {w : W5} (h : WorkAt c H x w) (s : Same H H') : WorkAt c H' x w := by
  obtain ⟨dx, h⟩ := h
  exact ⟨dx, s _ _ h⟩
theorem WorkAt.put {c : Ad} {H : Hp} {x R : Addr} {w : W5} {xs : List V} {o : HO} (h : WorkAt c H x w) (e : H R = some (.lst xs)) : WorkAt c (upd H R o) x w := by
  obtain ⟨dx, h⟩ := h
  refine ⟨dx, ?_⟩
  rw [upd_ne (ne_of h e (fun z => by cases z))]
  exact h
theorem WorkAt.drawn {c : Ad} {a : Addr} {H H' : Hp} {x : Addr} {w : W5} (h : WorkAt c H x w) (d : Dr a H H') (s : St2 H a) : WorkAt c H' x w := by
  obtain ⟨dx, h⟩ := h
  exact ⟨dx, d.at h (fun _ _ z => by cases z) s⟩
/-- a value that is a work's tuple, a work -/
def TupAt (K : PySem.W.Frag) (H : Hp) (v : V) (w : W5) : Prop := ∃ p, v = .ref p ∧ SqT K H p (tupW w)
def WkV (c : Ad) (H : Hp) (v : V) (w : W5) : Prop := ∃ x, v = .ref x ∧ WorkAt c H x w
theorem WkV.keep {c : Ad} {H H' : Hp} {v : V} {w : W5} (h : WkV c H v w) (s : Same H H') : WkV c H' v w := by
  obtain ⟨x, e, h⟩ := h
  exact ⟨x, e, h.keep s⟩
theorem WkV.put {c : Ad} {H : Hp} {v : V} {R : Addr} {w : W5} {xs : List V} {o : HO} (h : WkV c H v w) (e : H R = some (.lst xs)) : WkV c (upd H R o) v w := by
  obtain ⟨x, e1, h⟩ := h
  exact ⟨x, e1, h.put e⟩
theorem WkV.drawn {c : Ad} {a : Addr} {H H' : Hp} {v : V} {w : W5} (h : WkV c H v w) (d : Dr a H H') (s : St2 H a) : WkV c H' v w := by
  obtain ⟨x, e1, h⟩ := h
  exact ⟨x, e1, h.drawn d s⟩
theorem TupAt.keep {K : PySem.W.Frag} {H H' : Hp} {v : V} {w : W5} (h : TupAt K H v w) (s : ∀ p xs, SqT K H p xs → SqT K H' p xs) : TupAt K H' v w := by
  obtain ⟨p, e, h⟩ := h
  exact ⟨p, e, s _ _ h⟩
theorem TupAt.dp {K : PySem.W.Frag} {H : Hp} {v : V} {w : W5} (h : TupAt K H v w) : Dp K H v (workD w) := by
  obtain ⟨p, rfl, h⟩ := h
  exact work_dp h
theorem tups_dpa {K : PySem.W.Frag} {H : Hp} : ∀ {vs : List V} {ws : List W5}, Al2 (TupAt K H) vs ws → DpAll K H vs (ws.map workD)
  | _, _, .nil => .nil
  | _, _, .cons p h => .cons p.dp (tups_dpa h)
theorem works_shaped {ws : List W5} (h : ∀ w ∈ ws, WkOk w) : SeqAt.shaped (.list (ws.map workD)) = true := by
  have h1 : PyData.canLayAll0 (ws.map workD) = true := by
    induction ws with
    | nil => rfl
    | cons w r ih =>
      have q := work_shaped (h w List.mem_cons_self)
      unfold SeqAt.shaped at q
      rw [Bool.and_eq_true] at q
      show (PyData.canLay0 (workD w) && PyData.canLayAll0 (r.map workD)) = true
      rw [q.1, ih fun x hx => h x (List.mem_cons_of_mem _ hx)]
      rfl
  have h2 : PyData.depthAll (ws.map workD) ≤ 1 := by
    clear h h1
    induction ws with
    | nil => exact Nat.zero_le _
    | cons w r ih =>
      show max (PyData.depth (workD w)) (PyData.depthAll (r.map workD)) ≤ 1
      have e : PyData.depth (workD w) ≤ 1 := by
        unfold workD
        cases w.g <;> simp [PyData.depth, PyData.depthAll, optD]
      omega
  unfold SeqAt.shaped
  show (PyData.canLayAll0 (ws.map workD) && decide (PyData.depthAll (ws.map workD) + 1 ≤ 64)) = true
  rw [h1, decide_eq_true (by omega)]
  rfl
theorem works_eqv {ws : List W5} (h : ∀ w ∈ ws, WkOk w) : PyData.eqv (.list (ws.map workD)) (.list (ws.map workD)) = true := SeqAt.eqv_refl _ (by
  have := works_shaped h
  unfold SeqAt.shaped at this
  rw [Bool.and_eq_true] at this
  exact this.1)
theorem eqv_nilL (ds : List PyData) : PyData.eqv (.list ds) (.list []) = ds.isEmpty := by cases ds <;> rfl
theorem csW (c : Ad) (w : W5) : clsW c w = c.Grouped ∨ clsW c w = c.Loose := by
  unfold clsW
  cases w.g with
  | none => exact .inr rfl
  | some z => exact .inl rfl

abbrev s__law_by_itself : Stmt := topS 26
abbrev N__law_by_itself : List Str := ["_law_told_here", "_law_name_here", "_law_house", "_law_ready", "_law_group", "_law_place"]
theorem sc__law_by_itself : FnScope N__law_by_itself ["_law_told_here"] (defScope s__law_by_itself) := ⟨rfl, rfl, rfl, by decide +kernel, rfl, by decide +kernel, by decide +kernel⟩
def sp__law_by_itself (K : PySem.W.Frag) (c : Ad) : Sp := fun vs H Q E => arg1 (fun v => ∃ t w, v = .ref t ∧ SqT K H t (tupW w) ∧ Wf H ∧ ∀ x H', H x = none → Same H H' → Wf H' → WorkAt c H' x w → Q (.ref x) H') vs
theorem ok__law_by_itself {P : Program} {w : World} {K : PySem.W.Frag} {mg : Str → Option Value} {base : Heap} {c : Ad} (T : Txt K mg c) : Ok P w K mg base 3 "_law_by_itself" ["_law_told_here"] (sp__law_by_itself K c) := by
  refine okF T.f__law_by_itself sc__law_by_itself (fun vs H Q E h => ?_) (fun f cdv A outer sh H vs Q E hr h => ?_)
  · obtain ⟨v, rfl, h⟩ := arg1.ex h
    rfl
  · obtain ⟨v, rfl, h⟩ := arg1.ex h
    have tk : Takes (cxOf (L2.CX P w) P w K mg base N__law_by_itself "_law_by_itself" (defScope s__law_by_itself) f cdv A outer sh H (bE H E)) (fun cls d _ H' => bE H E cls d H') := takes_of rfl rfl rfl rfl
    refine ⟨_, pss_cons (ps_asg (lv 0) (pg_tupK (K := K) (n := 5) rfl (pgs_cons (pg_name (i := 1) sc__law_by_itself.nd rfl (.inl rfl)) (pgs_cons (pg_name (i := 2) sc__law_by_itself.nd rfl (.inl rfl)) (pgs_cons (pg_name (i := 3) sc__law_by_itself.nd rfl (.inl rfl)) (pgs_cons (pg_name (i := 4) sc__law_by_itself.nd rfl (.inl rfl)) (pgs_cons (pg_name (i := 5) sc__law_by_itself.nd rfl (.inl rfl)) pgs_nil)))))))
      (pss_cons (ps_if (pt_cmpU opU_is (lv 4) pe_non (nomark _))
      (pss_one (ps_ret (pe_mkS (ok_Work___init__ (K := K) T (x := "Loose") (.inl ⟨rfl, rfl⟩)) hr tk (pa_cons (lv 1) (pa_cons (lv 2) (pa_cons (lv 3) (pa_cons (lv 4) (pa_cons (lv 5) pa_nil)))))))) pss_nil)
      (pss_one (ps_ret (pe_mkS (ok_Work___init__ (K := K) T (x := "Grouped") (.inr ⟨rfl, rfl⟩)) hr tk (pa_cons (lv 1) (pa_cons (lv 2) (pa_cons (lv 3) (pa_cons (lv 4) (pa_cons (lv 5) pa_nil))))))))), ?_⟩
    obtain ⟨t, w, rfl, hT, wf, k⟩ := h
    refine ⟨t, _, rfl, hT, rfl, _, _, rfl, _, _, rfl, _, _, rfl, _, _, rfl, _, _, rfl, rfl, ?_⟩
    have mk : ∀ (C x dx : Addr) (u : V), C = clsW c w → u = optV w.g → H x = none → H dx = none → dx ≠ x → bQ H Q (.ref x) (upd (upd (upd H dx (.own x)) x (.ins C dx [])) x (.ins C dx (fs_Work (.str w.n) (.str w.h) (.int w.r) u (.int w.p)))) := fun C x dx u e1 e2 nx nd ne => by
      subst e1
      subst e2
      rw [upd_upd]
      have w2 : Wf (upd (upd H dx (.own x)) x (.ins (clsW c w) dx (fsW w))) := wf.made nx nd ne
      exact bQ.mk w2 (k x _ nx (fun b o e => by rw [upd_ne (ne_of_none e nx), upd_ne (ne_of_none e nd)]; exact e) w2 ⟨dx, upd_same⟩)
    cases hg : w.g with
    | none =>
      intro x dx nx nd ne
      refine ⟨x, dx, rfl, upd_same, wf.made nx nd ne, ?_⟩
      exact ⟨rfl, mk c.Loose x dx .non (by unfold clsW; rw [hg]) (by rw [hg] <;> rfl) nx nd ne⟩
    | some z =>
      intro x dx nx nd ne
      refine ⟨x, dx, rfl, upd_same, wf.made nx nd ne, ?_⟩
      exact ⟨rfl, mk c.Grouped x dx (.str z) (by unfold clsW; rw [hg]) (by rw [hg] <;> rfl) nx nd ne⟩

def aheadB (w1 w2 : W5) : Bool := match w1.g with | none => false | some _ => decide (w1.g = w2.g) && decide (w1.p < w2.p)
theorem apart {K : PySem.W.Frag} {mg : Str → Option Value} {c : Ad} (T : Txt K mg c) : c.Loose ≠ c.Grouped := fun e => by
  have h1 := T.s_Loose_Grouped
  have h2 := T.s_Grouped_Grouped
  rw [e, h2] at h1
  cases h1

abbrev s_Work_goes_ahead : Stmt := inClass (topS 12) 2
abbrev N_Work_goes_ahead : List Str := ["self", "other"]
theorem sc_Work_goes_ahead : FnScope N_Work_goes_ahead ["self", "other"] (defScope s_Work_goes_ahead) := ⟨rfl, rfl, rfl, by decide +kernel, rfl, by decide +kernel, by decide +kernel⟩
def cr_Work_goes_ahead (c : Ad) (C : Addr) : Prop := C = c.Loose
def sp_Work_goes_ahead (K : PySem.W.Frag) (c : Ad) (C : Addr) : Sp := fun vs H Q E => arg2 (fun u v => ∃ x y w1 w2, u = .ref x ∧ v = .ref y ∧ C = clsW c w1 ∧ WorkAt c H x w1 ∧ WorkAt c H y w2 ∧ Wf H ∧ Q (.bl (aheadB w1 w2)) H) vs
theorem ok_Work_goes_ahead {P : Program} {w : World} {K : PySem.W.Frag} {mg : Str → Option Value} {base : Heap} {c : Ad} (T : Txt K mg c) {C : Addr} (hC : cr_Work_goes_ahead c C) : OkM P w K mg base 1 C "goes_ahead" ["self", "other"] (sp_Work_goes_ahead K c C) := by
  have F : MtAt K C "goes_ahead" "Work.goes_ahead" s_Work_goes_ahead ["self", "other"] := by
    rcases hC with rfl
    · exact T.m_Loose_goes_ahead
  have cl : Cls K C := by
    rcases hC with rfl
    · exact T.o_Loose.cl
  have n_name : NoAttr K C "name" := by
    rcases hC with rfl
    · exact T.n_Loose_name
  have n_house : NoAttr K C "house" := by
    rcases hC with rfl
    · exact T.n_Loose_house
  have n_ready : NoAttr K C "ready" := by
    rcases hC with rfl
    · exact T.n_Loose_ready
  have n_group : NoAttr K C "group" := by
    rcases hC with rfl
    · exact T.n_Loose_group
  have n_place : NoAttr K C "place" := by
    rcases hC with rfl
    · exact T.n_Loose_place
  refine okM F sc_Work_goes_ahead (fun vs H Q E h => ?_) (fun f cdv A outer sh H vs Q E hr h => ?_)
  · obtain ⟨u, v, rfl, h⟩ := arg2.ex h
    rfl
  · obtain ⟨u, v, rfl, h⟩ := arg2.ex h
    have tk : Takes (cxOf (L2.CX P w) P w K mg base N_Work_goes_ahead "Work.goes_ahead" (defScope s_Work_goes_ahead) f cdv A outer sh H (bE H E)) (fun cls d _ H' => bE H E cls d H') := takes_of rfl rfl rfl rfl
    refine ⟨_, pss_one (ps_ret pe_bl), ?_⟩
    obtain ⟨x, y, w1, w2, rfl, rfl, hC1, hx, hy, wf, k⟩ := h
    have e : w1.g = none := by
      have hC2 : C = c.Loose := hC
      rw [hC2] at hC1
      unfold clsW at hC1
      cases q : w1.g with
      | none => rfl
      | some z =>
        rw [q] at hC1
        exact absurd hC1 (apart T)
    have e2 : aheadB w1 w2 = false := by
      unfold aheadB
      rw [e]
    rw [e2] at k
    exact bQ.same wf (Same.refl _) k
theorem okm_Loose_goes_ahead {P : Program} {w : World} {K : PySem.W.Frag} {mg : Str → Option Value} {base : Heap} {c : Ad} (T : Txt K mg c) : ∀ C, cs_Loose c C → OkM P w K mg base 1 C "goes_ahead" ["self", "other"] (sp_Work_goes_ahead K c C) := fun C h => ok_Work_goes_ahead T (by
  have e : C = c.Loose := h
  exact e)

abbrev s_Grouped_goes_ahead : Stmt := inClass (topS 14) 0
abbrev N_Grouped_goes_ahead : List Str := ["self", "other"]
theorem sc_Grouped_goes_ahead : FnScope N_Grouped_goes_ahead ["self", "other"] (defScope s_Grouped_goes_ahead) := ⟨rfl, rfl, rfl, by decide +kernel, rfl, by decide +kernel, by decide +kernel⟩
def cr_Grouped_goes_ahead (c : Ad) (C : Addr) : Prop := C = c.Grouped
def sp_Grouped_goes_ahead (K : PySem.W.Frag) (c : Ad) (C : Addr) : Sp := fun vs H Q E => arg2 (fun u v => ∃ x y w1 w2, u = .ref x ∧ v = .ref y ∧ C = clsW c w1 ∧ WorkAt c H x w1 ∧ WorkAt c H y w2 ∧ Wf H ∧ Q (.bl (aheadB w1 w2)) H) vs
theorem ok_Grouped_goes_ahead {P : Program} {w : World} {K : PySem.W.Frag} {mg : Str → Option Value} {base : Heap} {c : Ad} (T : Txt K mg c) {C : Addr} (hC : cr_Grouped_goes_ahead c C) : OkM P w K mg base 1 C "goes_ahead" ["self", "other"] (sp_Grouped_goes_ahead K c C) := by
  have F : MtAt K C "goes_ahead" "Grouped.goes_ahead" s_Grouped_goes_ahead ["self", "other"] := by
    rcases hC with rfl
    · exact T.m_Grouped_goes_ahead
  have cl : Cls K C := by
    rcases hC with rfl
    · exact T.o_Grouped.cl
  have n_name : NoAttr K C "name" := by
    rcases hC with rfl
    · exact T.n_Grouped_name
  have n_house : NoAttr K C "house" := by
    rcases hC with rfl
    · exact T.n_Grouped_house
  have n_ready : NoAttr K C "ready" := by
    rcases hC with rfl
    · exact T.n_Grouped_ready
  have n_group : NoAttr K C "group" := by
    rcases hC with rfl
    · exact T.n_Grouped_group
  have n_place : NoAttr K C "place" := by
    rcases hC with rfl
    · exact T.n_Grouped_place
  refine okM F sc_Grouped_goes_ahead (fun vs H Q E h => ?_) (fun f cdv A outer sh H vs Q E hr h => ?_)
  · obtain ⟨u, v, rfl, h⟩ := arg2.ex h
    rfl
  · obtain ⟨u, v, rfl, h⟩ := arg2.ex h
    have tk : Takes (cxOf (L2.CX P w) P w K mg base N_Grouped_goes_ahead "Grouped.goes_ahead" (defScope s_Grouped_goes_ahead) f cdv A outer sh H (bE H E)) (fun cls d _ H' => bE H E cls d H') := takes_of rfl rfl rfl rfl
    refine ⟨_, pss_one (ps_ret (pe_andU (K := K) (pe_cmpR (opU_eq (K := K) hr) (pe_fldK (K := K) (lv 0) rfl) (pe_fldK (K := K) (lv 1) rfl) (nomark _)) (pe_one (pe_cmpR opU_lt (pe_fldK (K := K) (lv 0) rfl) (pe_fldK (K := K) (lv 1) rfl) (nomark _))))), ?_⟩
    obtain ⟨x, y, w1, w2, rfl, rfl, hC1, ⟨dx, hx⟩, ⟨dy, hy⟩, wf, k⟩ := h
    have cl2 := clsW_cl T w2
    obtain ⟨n1, n2, n3, n4, n5⟩ := clsW_n T w2
    obtain ⟨a1, a2, a3, g1, a5⟩ := w1
    cases g1 with
    | none =>
      have hC2 : C = c.Grouped := hC
      rw [hC2] at hC1
      exact absurd hC1.symm (apart T)
    | some z1 =>
      refine ⟨x, _, dx, _, _, rfl, hx, T.o_Grouped.cl, T.n_Grouped_group, rfl, ?_⟩
      refine ⟨y, _, dy, _, _, rfl, hy, cl2, n4, rfl, ?_⟩
      obtain ⟨b1, b2, b3, g2, b5⟩ := w2
      cases g2 with
      | none => exact bQ.same wf (Same.refl _) k
      | some z2 =>
        refine iteC (p := V.str z1 = V.str z2) (fun e => ?_) (fun e => ?_)
        · cases e
          refine ⟨x, _, dx, _, _, rfl, hx, T.o_Grouped.cl, T.n_Grouped_place, rfl, ?_⟩
          refine ⟨y, _, dy, _, _, rfl, hy, cl2, n5, rfl, ?_⟩
          have e2 : aheadB ⟨a1, a2, a3, some z1, a5⟩ ⟨b1, b2, b3, some z1, b5⟩ = decide (a5 < b5) := by
            unfold aheadB
            simp
          rw [e2] at k
          exact bQ.same wf (Same.refl _) k
        · have e2 : aheadB ⟨a1, a2, a3, some z1, a5⟩ ⟨b1, b2, b3, some z2, b5⟩ = false := by
            unfold aheadB
            simp
            intro e3
            exact absurd (by rw [e3]) e
          rw [e2] at k
          show bQ H Q (.bl (decide (V.str z1 = V.str z2))) H
          rw [decide_eq_false e]
          exact bQ.same wf (Same.refl _) k
theorem okm_Grouped_goes_ahead {P : Program} {w : World} {K : PySem.W.Frag} {mg : Str → Option Value} {base : Heap} {c : Ad} (T : Txt K mg c) : ∀ C, cs_Grouped c C → OkM P w K mg base 1 C "goes_ahead" ["self", "other"] (sp_Grouped_goes_ahead K c C) := fun C h => ok_Grouped_goes_ahead T (by
  have e : C = c.Grouped := h
  exact e)

abbrev s__law_due : Stmt := topS 24
abbrev N__law_due : List Str := ["_law_one", "_law_other"]
theorem sc__law_due : FnScope N__law_due ["_law_one", "_law_other"] (defScope s__law_due) := ⟨rfl, rfl, rfl, by decide +kernel, rfl, by decide +kernel, by decide +kernel⟩
def sp__law_due (K : PySem.W.Frag) (c : Ad) : Sp := fun vs H Q E => arg2 (fun u v => ∃ w1 w2, TupAt K H u w1 ∧ TupAt K H v w2 ∧ Wf H ∧ Q (.bl (aheadB w1 w2)) H) vs
theorem ok__law_due {P : Program} {w : World} {K : PySem.W.Frag} {mg : Str → Option Value} {base : Heap} {c : Ad} (T : Txt K mg c) : Ok P w K mg base 1 "_law_due" ["_law_one", "_law_other"] (sp__law_due K c) := by
  refine okF T.f__law_due sc__law_due (fun vs H Q E h => ?_) (fun f cdv A outer sh H vs Q E hr h => ?_)
  · obtain ⟨u, v, rfl, h⟩ := arg2.ex h
    rfl
  · obtain ⟨u, v, rfl, h⟩ := arg2.ex h
    have tk : Takes (cxOf (L2.CX P w) P w K mg base N__law_due "_law_due" (defScope s__law_due) f cdv A outer sh H (bE H E)) (fun cls d _ H' => bE H E cls d H') := takes_of rfl rfl rfl rfl
    refine ⟨_, pss_one (ps_ret (pe_andU (K := K) (pe_cmpR opU_isnot (pe_ix (ixU (K := K)) (lv 0) pe_int (fun _ _ => rfl)) pe_non (nomark _)) (pe_andU (K := K) (pe_cmpR (opU_eq (K := K) hr) (pe_ix (ixU (K := K)) (lv 0) pe_int (fun _ _ => rfl)) (pe_ix (ixU (K := K)) (lv 1) pe_int (fun _ _ => rfl)) (nomark _)) (pe_one (pe_cmpR opU_lt (pe_ix (ixU (K := K)) (lv 0) pe_int (fun _ _ => rfl)) (pe_ix (ixU (K := K)) (lv 1) pe_int (fun _ _ => rfl)) (nomark _)))))), ?_⟩
    obtain ⟨w1, w2, ⟨p, rfl, hp⟩, ⟨q, rfl, hq⟩, wf, k⟩ := h
    refine ⟨_, _, .inr hp, rfl, ?_⟩
    obtain ⟨a1, a2, a3, g1, a5⟩ := w1
    cases g1 with
    | none => exact bQ.same wf (Same.refl _) k
    | some z1 =>
      refine ⟨_, _, .inr hp, rfl, ?_⟩
      refine ⟨_, _, .inr hq, rfl, ?_⟩
      obtain ⟨b1, b2, b3, g2, b5⟩ := w2
      cases g2 with
      | none => exact bQ.same wf (Same.refl _) k
      | some z2 =>
        refine iteC (p := V.str z1 = V.str z2) (fun e => ?_) (fun e => ?_)
        · cases e
          refine ⟨_, _, .inr hp, rfl, ?_⟩
          refine ⟨_, _, .inr hq, rfl, ?_⟩
          have e2 : aheadB ⟨a1, a2, a3, some z1, a5⟩ ⟨b1, b2, b3, some z1, b5⟩ = decide (a5 < b5) := by
            unfold aheadB
            simp
          rw [e2] at k
          exact bQ.same wf (Same.refl _) k
        · have e2 : aheadB ⟨a1, a2, a3, some z1, a5⟩ ⟨b1, b2, b3, some z2, b5⟩ = false := by
            unfold aheadB
            simp
            intro e3
            exact absurd (by rw [e3]) e
          rw [e2] at k
          show bQ H Q (.bl (decide (V.str z1 = V.str z2))) H
          rw [decide_eq_false e]
          exact bQ.same wf (Same.refl _) k

theorem cut_pre {z : Str} {i : Int} (h0 : 0 ≤ i) : cutS z none (some i) = ⟨(z.cps.toList.take i.toNat).toArray⟩ := by
  obtain ⟨j, rfl⟩ : ∃ j : Nat, i = j := ⟨i.toNat, by omega⟩
  unfold cutS
  rw [HT.sIx_nat, HT.sIx_none, List.drop_zero, Nat.sub_zero, Int.toNat_natCast]
  congr 2
  have e : z.length = z.cps.toList.length := (Array.length_toList).symm
  rw [e]
  by_cases h : j ≤ z.cps.toList.length
  · rw [Nat.min_eq_left h]
  · rw [Nat.min_eq_right (by omega), List.take_of_length_le (Nat.le_refl _), List.take_of_length_le (by omega)]
theorem cut_suf {z : Str} {i : Int} (h0 : 0 ≤ i) : cutS z (some i) none = ⟨(z.cps.toList.drop i.toNat).toArray⟩ := by
  obtain ⟨j, rfl⟩ : ∃ j : Nat, i = j := ⟨i.toNat, by omega⟩
  unfold cutS
  rw [HT.sIx_nat, HT.sIx_none, Int.toNat_natCast]
  congr 1
  have e : z.length = z.cps.toList.length := (Array.length_toList).symm
  rw [e]
  by_cases h : j ≤ z.cps.toList.length
  · rw [Nat.min_eq_left h, List.take_of_length_le (by rw [List.length_drop]; omega)]
  · rw [Nat.min_eq_right (by omega), List.drop_of_length_le (Nat.le_refl _), List.drop_of_length_le (by omega)]
    simp
/-- a name with one letter put otherwise -/
theorem NameS.put {z : Str} {i : Int} {x : Nat} (h : NameS z) (h0 : 0 ≤ i) (h1 : i < z.length) (hx : x ∈ lets) : NameS (cutS z none (some i) ++ ⟨#[x]⟩ ++ cutS z (some (i + 1)) none) := by
  obtain ⟨j, rfl⟩ : ∃ j : Nat, i = j := ⟨i.toNat, by omega⟩
  have e : z.length = z.cps.toList.length := (Array.length_toList).symm
  have hl := h.len
  have ha : ∀ c ∈ z.cps.toList, c ∈ lets := by
    have q : (decide (1 ≤ (z.length : Int)) && decide ((z.length : Int) ≤ 8) && z.cps.toList.all fun c => decide (c ∈ lets)) = true := h.1
    rw [Bool.and_eq_true, List.all_eq_true] at q
    intro c hc
    exact of_decide_eq_true (q.2 c hc)
  rw [cut_pre h0, cut_suf (by omega)]
  have e2 : (⟨(z.cps.toList.take (j : Int).toNat).toArray⟩ : Str) ++ ⟨#[x]⟩ ++ ⟨(z.cps.toList.drop ((j : Int) + 1).toNat).toArray⟩ = ⟨(z.cps.toList.take j ++ [x] ++ z.cps.toList.drop (j + 1)).toArray⟩ := by
    have n1 : (j : Int).toNat = j := by omega
    have n2 : ((j : Int) + 1).toNat = j + 1 := by omega
    rw [n1, n2]
    show (⟨(z.cps.toList.take j).toArray ++ #[x] ++ (z.cps.toList.drop (j + 1)).toArray⟩ : Str) = _
    simp
  rw [e2]
  refine NameS.of ?_ ?_ ?_
  · simp
    omega
  · rw [List.length_append, List.length_append, List.length_take, List.length_drop, List.length_singleton]
    omega
  · intro c hc
    rcases List.mem_append.mp hc with hc | hc
    · rcases List.mem_append.mp hc with hc | hc
      · exact ha c (List.mem_of_mem_take hc)
      · rw [List.mem_singleton.mp hc]
        exact hx
    · exact ha c (List.mem_of_mem_drop hc)

abbrev s__law_told : Stmt := topS 23
abbrev N__law_told : List Str := ["_law_state_here", "_law_groups", "_law_known", "_law_way", "_law_place", "_law_told_here"]
theorem sc__law_told : FnScope N__law_told ["_law_state_here", "_law_groups", "_law_known"] (defScope s__law_told) := ⟨rfl, rfl, rfl, by decide +kernel, rfl, by decide +kernel, by decide +kernel⟩
def sp__law_told (K : PySem.W.Frag) (c : Ad) : Sp := fun vs H Q E => arg3 (fun s u v => ∃ a gs kn gn1 gn2 vs ws, s = .ref a ∧ u = .ref gs ∧ v = .ref kn ∧ St2 H a ∧ H gs = some (.lst [.str gn1, .str gn2]) ∧ NameS gn1 ∧ NameS gn2 ∧ H kn = some (.lst vs) ∧ kn ≠ a ∧ Al2 (TupAt K H) vs ws ∧ (∀ w ∈ ws, WkOk w) ∧ vs.length ≤ 20 ∧ Wf H ∧ ∀ w t H', WkOk w → Dr a H H' → H' t = some (.tup (tupW w)) → Q (.ref t) H') vs
theorem ok__law_told {P : Program} {w : World} {K : PySem.W.Frag} {mg : Str → Option Value} {base : Heap} {c : Ad} (T : Txt K mg c) : Ok P w K mg base 4 "_law_told" ["_law_state_here", "_law_groups", "_law_known"] (sp__law_told K c) := by
  refine okF T.f__law_told sc__law_told (fun vs H Q E h => ?_) (fun f cdv A outer sh H vs Q E hr h => ?_)
  · obtain ⟨s, u, v, rfl, h⟩ := arg3.ex h
    rfl
  · obtain ⟨s, u, v, rfl, h⟩ := arg3.ex h
    have tk : Takes (cxOf (L2.CX P w) P w K mg base N__law_told "_law_told" (defScope s__law_told) f cdv A outer sh H (bE H E)) (fun cls d _ H' => bE H E cls d H') := takes_of rfl rfl rfl rfl
    refine ⟨_, pss_cons (ps_set (i := 3) sc__law_told.nd rfl (.inl rfl) (pe_f (ok__law_digit (K := K) T) (hr.mono (by decide)) passL (pa_cons (lv 0) (pa_cons pe_int pa_nil))))
      (pss_cons (ps_set (i := 4) sc__law_told.nd rfl (.inl rfl) (pe_ix (ixU (K := K)) (pe_lst (pa_cons (pe_f (ok__law_digit (K := K) T) (hr.mono (by decide)) passL (pa_cons (lv 0) (pa_cons pe_int pa_nil))) (pa_cons (pe_f (ok__law_digit (K := K) T) (hr.mono (by decide)) passL (pa_cons (lv 0) (pa_cons (pe_op (opU_add (K := K)) (pe_op opU_pow pe_int pe_int) pe_int) pa_nil))) (pa_cons (pe_op opU_pow pe_int pe_int) pa_nil)))) (pe_f (ok__law_digit (K := K) T) (hr.mono (by decide)) passL (pa_cons (lv 0) (pa_cons pe_int pa_nil))) (fun _ _ => rfl)))
      (pss_cons (ps_cut (ps_if (PW.pt (pw_and (pt_cmpU (opU_ne (K := K) hr) (lv 2) (pe_lst pa_nil) (nomark _)) (pw_and1 (pt_cmpU (opU_eq (K := K) hr) (pe_f (ok__law_digit (K := K) T) (hr.mono (by decide)) passL (pa_cons (lv 0) (pa_cons pe_int pa_nil))) pe_int (nomark _)))))
      (pss_one (ps_set (i := 4) sc__law_told.nd rfl (.inl rfl) (pe_ix (ixU (K := K)) (pe_ix (ixU (K := K)) (lv 2) (pe_f (ok__law_digit (K := K) T) (hr.mono (by decide)) passL (pa_cons (lv 0) (pa_cons (pe_callB (callU_len (K := K)) (by rfl) T.m_len (by decide +kernel) (pa_cons (lv 2) pa_nil)) pa_nil))) (fun _ _ => rfl)) pe_int (fun _ _ => rfl)))) pss_nil))
      (pss_cons (ps_set (i := 5) sc__law_told.nd rfl (.inl rfl) (pe_tup (pa_cons (pe_f (ok__law_name (K := K) T) hr passL (pa_cons (lv 0) pa_nil)) (pa_cons (pe_f (ok__law_name (K := K) T) hr passL (pa_cons (lv 0) pa_nil)) (pa_cons (pe_f (ok__law_digit (K := K) T) (hr.mono (by decide)) passL (pa_cons (lv 0) (pa_cons pe_int pa_nil))) pa_nil)))))
      (pss_cons (ps_if (pt_cmpU (opU_eq (K := K) hr) (lv 3) pe_int (nomark _))
      (pss_one (ps_ret (pe_op (opU_add (K := K)) (lv 5) (pe_tup (pa_cons pe_non (pa_cons pe_int pa_nil)))))) pss_nil)
      (pss_one (ps_ret (pe_op (opU_add (K := K)) (lv 5) (pe_tup (pa_cons (pe_ix (ixU (K := K)) (lv 1) (pe_op opU_mod (lv 3) pe_int) (fun _ _ => rfl)) (pa_cons (lv 4) pa_nil)))))))))), ?_⟩
    obtain ⟨a, gs, kn, gn1, gn2, vs, ws, rfl, rfl, rfl, s0, eg, sg1, sg2, ek, nk, hv, hw, hl, wf, k⟩ := h
    have d0 := Dr.refl s0 wf
    have ng : gs ≠ a := by
      obtain ⟨p, q, e, _⟩ := s0
      exact ne_of eg e (fun z => by cases z)
    refine ⟨a, 4, rfl, rfl, d0.st, bas_lt (by decide) (by decide), d0.wf, fun r1 p1 q1 g1 l1 n1 => ?_⟩
    have d1 := d0.drawn (q := q1) n1
    replace eg := (upd_ne (o := stL p1 q1) ng).trans eg
    replace ek := (upd_ne (o := stL p1 q1) nk).trans ek
    generalize upd H a (stL p1 q1) = H1 at d1 eg ek ⊢
    refine ⟨a, 4, rfl, rfl, d1.st, bas_lt (by decide) (by decide), d1.wf, fun r2 p2 q2 g2 l2 n2 => ?_⟩
    have d2 := d1.drawn (q := q2) n2
    replace eg := (upd_ne (o := stL p2 q2) ng).trans eg
    replace ek := (upd_ne (o := stL p2 q2) nk).trans ek
    generalize upd H1 a (stL p2 q2) = H2 at d2 eg ek ⊢
    refine ⟨⟨by decide, by decide, by decide⟩, ?_⟩
    refine ⟨a, _, rfl, rfl, d2.st, bas_lt (by decide) (by decide), d2.wf, fun r3 p3 q3 g3 l3 n3 => ?_⟩
    have d3 := d2.drawn (q := q3) n3
    replace eg := (upd_ne (o := stL p3 q3) ng).trans eg
    replace ek := (upd_ne (o := stL p3 q3) nk).trans ek
    generalize upd H2 a (stL p3 q3) = H3 at d3 eg ek ⊢
    refine ⟨⟨by decide, by decide, by decide⟩, ?_⟩
    refine ⟨line_of (show 3 ≤ 16777216 by decide), fun x1 nx1 => ?_⟩
    have nex1 := st_ne d3.st nx1
    have d4 := d3.new (p := x1) (o := .lst [.int r2, .int r3, .int (10 ^ Int.toNat 9)]) nx1 trivial
    replace eg := same_new (o := .lst [.int r2, .int r3, .int (10 ^ Int.toNat 9)]) nx1 _ _ eg
    replace ek := same_new (o := .lst [.int r2, .int r3, .int (10 ^ Int.toNat 9)]) nx1 _ _ ek
    have ex1 : (upd H3 x1 (.lst [.int r2, .int r3, .int (10 ^ Int.toNat 9)])) x1 = some (.lst [.int r2, .int r3, .int (10 ^ Int.toNat 9)]) := upd_same
    generalize upd H3 x1 (.lst [.int r2, .int r3, .int (10 ^ Int.toNat 9)]) = H4 at d4 ex1 eg ek ⊢
    refine ⟨a, 3, rfl, rfl, d4.st, bas_lt (by decide) (by decide), d4.wf, fun r5 p5 q5 g5 l5 n5 => ?_⟩
    have d5 := d4.drawn (q := q5) n5
    replace ex1 := (upd_ne (o := stL p5 q5) nex1).trans ex1
    replace eg := (upd_ne (o := stL p5 q5) ng).trans eg
    replace ek := (upd_ne (o := stL p5 q5) nk).trans ek
    generalize upd H4 a (stL p5 q5) = H5 at d5 ex1 eg ek ⊢
    rw [e9] at ex1 l3
    obtain ⟨v1, hv1, m1⟩ := at_lt (xs := [V.int r2, .int r3, .int 1000000000]) g5 (by exact l5)
    refine ⟨_, v1, .inl (.inl (.inl ex1)), hv1, ?_⟩
    obtain ⟨pl, rfl, pl0, pl1⟩ : ∃ z : Int, v1 = .int z ∧ 0 ≤ z ∧ z ≤ 1000000000 := by
      simp only [List.mem_cons, List.not_mem_nil, or_false] at m1
      rcases m1 with rfl | rfl | rfl
      · exact ⟨_, rfl, by omega, by omega⟩
      · exact ⟨_, rfl, by omega, by omega⟩
      · exact ⟨_, rfl, by omega, by omega⟩
    refine ⟨fun σ' H' => ∃ pl : Int, σ' = [some (.ref a), some (.ref gs), some (.ref kn), some (.int r1), some (.int pl), none] ∧ 0 ≤ pl ∧ pl ≤ 1000000000 ∧ Dr a H5 H', ?_, ?_⟩
    · refine ⟨line_of (show 0 ≤ 16777216 by decide), fun e ne => ?_⟩
      have sm := same_new (o := .lst []) ne
      have hv5 : Al2 (TupAt K (upd H5 e (.lst []))) vs ws := hv.mono fun _ _ p => p.keep fun p xs h => same_tups sm _ _ (d5.tups s0 _ _ h)
      have ek5 := sm _ _ ek
      have d6 := (Dr.refl d5.st d5.wf).new (p := e) (o := .lst []) ne trivial
      refine ⟨.list (ws.map workD), .list [], .lst (.inl (.inl ek5)) (tups_dpa hv5), .lst (.inl (.inl upd_same)) .nil, works_shaped hw, rfl, ?_⟩
      generalize upd H5 e (.lst []) = H6 at d6 hv5 ek5 ⊢
      refine iteB (c := !PyData.eqv (.list (ws.map workD)) (.list [])) (fun h1 => ?_) (fun h1 => ?_)
      · refine ⟨a, 3, rfl, rfl, d6.st, bas_lt (by decide) (by decide), d6.wf, fun r7 p7 q7 g7 l7 n7 => ?_⟩
        have d7 := d6.drawn (q := q7) n7
        replace ek5 := (upd_ne (o := stL p7 q7) nk).trans ek5
        generalize upd H6 a (stL p7 q7) = H7 at d7 ek5 ⊢
        refine iteC (p := V.int r7 = V.int 0) (fun h2 => ?_) (fun h2 => ?_)
        · have hn : 0 < vs.length := by
            rw [hv.len]
            cases ws with
            | nil =>
              rw [eqv_nilL] at h1
              cases h1
            | cons w r => exact Nat.succ_pos _
          refine .inl ⟨vs, .inl (.inl (.inl ek5)), ?_⟩
          refine ⟨a, _, rfl, rfl, d7.st, bas_lt (by omega) (by omega), d7.wf, fun r8 p8 q8 g8 l8 n8 => ?_⟩
          have d8 := d7.drawn (q := q8) n8
          replace ek5 := (upd_ne (o := stL p8 q8) nk).trans ek5
          generalize upd H7 a (stL p8 q8) = H8 at d8 ek5 ⊢
          obtain ⟨v, w, hv8, hw8, p, rfl, hp⟩ := (hv.mono (P' := TupAt K H8) fun _ _ p => p.keep ((d5.trans d8).tups s0)).at g8 (by exact l8)
          refine ⟨_, _, .inl (.inl (.inl ek5)), hv8, ?_⟩
          refine ⟨_, _, .inr hp, rfl, ?_⟩
          have wo := (hw w (List.mem_of_getElem? hw8)).place
          exact ⟨w.p, rfl, wo.1, wo.2, d8⟩
        · exact ⟨pl, rfl, pl0, pl1, d7⟩
      · exact ⟨pl, rfl, pl0, pl1, d6⟩
    · rintro σ' HA ⟨pl2, rfl, h0, h1, d⟩
      have dA := d5.trans d
      replace eg := d.kp _ _ ng eg
      refine ⟨a, rfl, dA.st, dA.wf, fun nm pB qB snm nB => ?_⟩
      have dB := dA.drawn (q := qB) nB
      replace eg := (upd_ne (o := stL pB qB) ng).trans eg
      generalize upd HA a (stL pB qB) = HB at dB eg ⊢
      refine ⟨a, rfl, dB.st, dB.wf, fun hm pC qC shm nC => ?_⟩
      have dC := dB.drawn (q := qC) nC
      replace eg := (upd_ne (o := stL pC qC) ng).trans eg
      generalize upd HB a (stL pC qC) = HC at dC eg ⊢
      refine ⟨a, 9, rfl, rfl, dC.st, bas_lt (by decide) (by decide), dC.wf, fun rD pD qD gD lD nD => ?_⟩
      have dD := dC.drawn (q := qD) nD
      replace eg := (upd_ne (o := stL pD qD) ng).trans eg
      generalize upd HC a (stL pD qD) = HD at dD eg ⊢
      refine ⟨line_of (show 3 ≤ 16777216 by decide), fun t3 nt3 => ?_⟩
      have net3 := st_ne dD.st nt3
      have dF := dD.new (p := t3) (o := .tup [.str nm, .str hm, .int rD]) nt3 trivial
      replace eg := same_new (o := .tup [.str nm, .str hm, .int rD]) nt3 _ _ eg
      have et3 : (upd HD t3 (.tup [.str nm, .str hm, .int rD])) t3 = some (.tup [.str nm, .str hm, .int rD]) := upd_same
      generalize upd HD t3 (.tup [.str nm, .str hm, .int rD]) = HF at dF et3 eg ⊢
      refine iteC (p := V.int r1 = V.int 0) (fun h2 => ?_) (fun h2 => ?_)
      · refine ⟨line_of (show 2 ≤ 16777216 by decide), fun y ny => ?_⟩
        have ney := st_ne dF.st ny
        have dG := dF.new (p := y) (o := .tup [.non, .int 0]) ny trivial
        replace et3 := same_new (o := .tup [.non, .int 0]) ny _ _ et3
        have ey : (upd HF y (.tup [.non, .int 0])) y = some (.tup [.non, .int 0]) := upd_same
        generalize upd HF y (.tup [.non, .int 0]) = HG at dG ey et3 ⊢
        refine .inr ⟨_, _, _, _, rfl, rfl, .inl (.inl et3), .inl (.inl ey), by simp, line_of (show 5 ≤ 16777216 by decide), ⟨fun z => (by cases z), fun _ t nt => ?_⟩⟩
        have dZ := dG.new (p := t) (o := .tup (tupW ⟨nm, hm, rD, none, 0⟩)) nt trivial
        exact bQ.mk dZ.wf (k _ t _ (.loose snm shm gD (by omega)) dZ upd_same)
      · refine ⟨by decide, ?_⟩
        obtain ⟨v3, hv3, m3⟩ := at_lt (xs := [V.str gn1, V.str gn2]) (i := r1 % 2) (by omega) (by simp; omega)
        refine ⟨_, v3, .inl (.inl (.inl eg)), hv3, ?_⟩
        obtain ⟨gr, rfl, sgr⟩ : ∃ z, v3 = .str z ∧ NameS z := by
          simp only [List.mem_cons, List.not_mem_nil, or_false] at m3
          rcases m3 with rfl | rfl
          · exact ⟨_, rfl, sg1⟩
          · exact ⟨_, rfl, sg2⟩
        refine ⟨line_of (show 2 ≤ 16777216 by decide), fun y ny => ?_⟩
        have ney := st_ne dF.st ny
        have dG := dF.new (p := y) (o := .tup [.str gr, .int pl2]) ny trivial
        replace et3 := same_new (o := .tup [.str gr, .int pl2]) ny _ _ et3
        have ey : (upd HF y (.tup [.str gr, .int pl2])) y = some (.tup [.str gr, .int pl2]) := upd_same
        generalize upd HF y (.tup [.str gr, .int pl2]) = HG at dG ey et3 ⊢
        refine .inr ⟨_, _, _, _, rfl, rfl, .inl (.inl et3), .inl (.inl ey), by simp, line_of (show 5 ≤ 16777216 by decide), ⟨fun z => (by cases z), fun _ t nt => ?_⟩⟩
        have dZ := dG.new (p := t) (o := .tup (tupW ⟨nm, hm, rD, some gr, pl2⟩)) nt trivial
        exact bQ.mk dZ.wf (k _ t _ (.grouped snm shm gD (by omega) sgr h0 h1) dZ upd_same)

def cs_Grouped_Loose (c : Ad) (C : Addr) : Prop := C = c.Grouped ∨ C = c.Loose
theorem okc_Grouped_Loose {K : PySem.W.Frag} {mg : Str → Option Value} {c : Ad} (T : Txt K mg c) : ∀ C, cs_Grouped_Loose c C → Cls K C := fun C h => by
  rcases h with e | e
  · subst e
    exact T.o_Grouped.cl
  · subst e
    exact T.o_Loose.cl
theorem okm_Grouped_Loose_goes_ahead {P : Program} {w : World} {K : PySem.W.Frag} {mg : Str → Option Value} {base : Heap} {c : Ad} (T : Txt K mg c) : ∀ C, cs_Grouped_Loose c C → OkM P w K mg base 1 C "goes_ahead" ["self", "other"] (sp_Grouped_goes_ahead K c C) := fun C h => by
  rcases h with e | e
  · exact ok_Grouped_goes_ahead T e
  · exact ok_Work_goes_ahead T e
abbrev s__law_pairs_right : Stmt := topS 25
abbrev N__law_pairs_right : List Str := ["_law_works", "_law_others", "_law_rows", "_law_at", "_law_many", "_law_k", "_law_one", "_law_other", "_law_told_here"]
theorem sc__law_pairs_right : FnScope N__law_pairs_right ["_law_works", "_law_others", "_law_rows", "_law_at"] (defScope s__law_pairs_right) := ⟨rfl, rfl, rfl, by decide +kernel, rfl, by decide +kernel, by decide +kernel⟩
def sp__law_pairs_right (K : PySem.W.Frag) (c : Ad) : Sp := fun vs H Q E => arg4 (fun r s u v => ∃ a1 a2 a3 xs ys zs ws n, r = .ref a1 ∧ s = .ref a2 ∧ u = .ref a3 ∧ v = .int n ∧ 0 ≤ n ∧ n ≤ 1000 ∧ SqL K H a1 xs ∧ SqL K H a2 ys ∧ SqL K H a3 zs ∧ Al2 (WkV c H) xs ws ∧ Al2 (WkV c H) ys ws ∧ Al2 (TupAt K H) zs ws ∧ ws.length ≤ 20 ∧ Wf H ∧ Q (.bl true) H) vs
theorem ok__law_pairs_right {P : Program} {w : World} {K : PySem.W.Frag} {mg : Str → Option Value} {base : Heap} {c : Ad} (T : Txt K mg c) : Ok P w K mg base 2 "_law_pairs_right" ["_law_works", "_law_others", "_law_rows", "_law_at"] (sp__law_pairs_right K c) := by
  refine okF T.f__law_pairs_right sc__law_pairs_right (fun vs H Q E h => ?_) (fun f cdv A outer sh H vs Q E hr h => ?_)
  · obtain ⟨r, s, u, v, rfl, h⟩ := arg4.ex h
    rfl
  · obtain ⟨r, s, u, v, rfl, h⟩ := arg4.ex h
    have tk : Takes (cxOf (L2.CX P w) P w K mg base N__law_pairs_right "_law_pairs_right" (defScope s__law_pairs_right) f cdv A outer sh H (bE H E)) (fun cls d _ H' => bE H E cls d H') := takes_of rfl rfl rfl rfl
    refine ⟨_, pss_cons (ps_set (i := 4) sc__law_pairs_right.nd rfl (.inl rfl) (pe_callB (callU_len (K := K)) (by rfl) T.m_len (by decide +kernel) (pa_cons (lv 2) pa_nil)))
      (pss_cons (ps_for (passes_of rfl) rfl (pi_range1 (by rfl) T.m_range (pa_cons (pe_op opU_mul (lv 4) (lv 4)) pa_nil)) (pg_name (i := 5) sc__law_pairs_right.nd rfl (.inl rfl))
      (pss_cons (ps_par (i := 6) (j := 7) rfl sc__law_pairs_right.nd rfl rfl (by decide) rfl rfl (pa_cons (pe_op opU_mod (pe_op opU_div (pe_op (opU_add (K := K)) (lv 3) (lv 5)) (lv 4)) (lv 4)) (pa_cons (pe_op opU_mod (pe_op (opU_add (K := K)) (lv 3) (lv 5)) (lv 4)) pa_nil)) rfl)
      (pss_cons (ps_set (i := 8) sc__law_pairs_right.nd rfl (.inl rfl) (pe_mS (CS := cs_Grouped_Loose c) (pe_ix (ixU (K := K)) (lv 0) (lv 6) (fun _ _ => rfl)) (okc_Grouped_Loose T) (okm_Grouped_Loose_goes_ahead T) hr tk (pa_cons (pe_ix (ixU (K := K)) (lv 1) (lv 7) (fun _ _ => rfl)) pa_nil)))
      (pss_one (ps_if (PW.pt (pw_or (pt_not (pt_truthU (K := K) (pe_callB (callU_isi (K := K)) (by rfl) T.m_isinstance (by decide +kernel) (pa_cons (lv 8) (pa_cons (pe_ty "bool" T.m_bool) pa_nil))) (by intro _; rfl))) (pw_or1 (pt_cmpU (opU_ne (K := K) hr) (lv 8) (pe_f (ok__law_due (K := K) T) hr passL (pa_cons (pe_ix (ixU (K := K)) (lv 2) (lv 6) (fun _ _ => rfl)) (pa_cons (pe_ix (ixU (K := K)) (lv 2) (lv 7) (fun _ _ => rfl)) pa_nil))) (nomark _)))))
      (pss_one (ps_ret pe_bl)) pss_nil)))))
      (pss_one (ps_ret pe_bl))), ?_⟩
    obtain ⟨a1, a2, a3, xs, ys, zs, ws, n, rfl, rfl, rfl, rfl, hn0, hn1, h1, h2, h3, f1, f2, f3, hl, wf, k⟩ := h
    have m1 := f1.len
    have m2 := f2.len
    have m3 := f3.len
    refine .inl ⟨_, .inl h3, ?_⟩
    refine ⟨.inr (mul_b (a := 8) (b := 8) (by omega) (by omega) (by omega) (by omega) (by decide) (by decide) (by decide)), ?_⟩
    have mm : 0 ≤ (zs.length : Int) * zs.length ∧ (zs.length : Int) * zs.length ≤ 400 := ⟨Int.mul_nonneg (by omega) (by omega), by
      have : (zs.length : Int) * zs.length ≤ 20 * 20 := Int.mul_le_mul (by omega) (by omega) (by omega) (by omega)
      omega⟩
    refine ⟨_, rfl, by omega, by omega, ?_⟩
    refine for_range (lo := 0) (n := _) (fun i σ H' => Same H H' ∧ Wf H' ∧ ∃ x1 x2 x3 x4, σ = [some (.ref a1), some (.ref a2), some (.ref a3), some (.int n), some (.int zs.length), x1, x2, x3, x4]) ⟨Same.refl _, wf, _, _, _, _, rfl⟩ (fun i σ H' hi hp => ?_) (fun σ H' hp => bQ.same wf hp.1 k)
    obtain ⟨sm, w1, x1, x2, x3, x4, rfl⟩ := hp
    have hz : 0 < zs.length := by
      cases zs with
      | nil => simp at hi
      | cons z r => exact Nat.succ_pos _
    have hi2 : i < 400 := by omega
    refine ⟨div_b (b := 8) (by omega) (by omega) (by decide) (by decide), by omega, by omega, _, _, rfl, ?_⟩
    have b1 : 0 ≤ (n + (0 + (i : Int))) / zs.length % zs.length ∧ (n + (0 + (i : Int))) / zs.length % zs.length < zs.length := mixed_b (by omega)
    have b2 : 0 ≤ (n + (0 + (i : Int))) % zs.length ∧ (n + (0 + (i : Int))) % zs.length < zs.length := mixed_b (by omega)
    generalize (n + (0 + (i : Int))) / zs.length % zs.length = i1 at b1 ⊢
    generalize (n + (0 + (i : Int))) % zs.length = i2 at b2 ⊢
    obtain ⟨v1, u1, g1, q1, x, rfl, hx⟩ := f1.at b1.1 (by omega)
    obtain ⟨v2, u2, g2, q2, y, rfl, hy⟩ := f2.at b2.1 (by omega)
    obtain ⟨v3, u3, g3, q3, t3⟩ := f3.at b1.1 (by omega)
    obtain ⟨v4, u4, g4, q4, t4⟩ := f3.at b2.1 (by omega)
    rw [q1] at q3
    cases q3
    rw [q2] at q4
    cases q4
    obtain ⟨dx, hx2⟩ := hx.keep sm
    refine ⟨_, _, .inl (sm.seq h1), g1, x, clsW c u1, dx, fsW u1, rfl, hx2, csW c u1, rfl, ?_⟩
    refine ⟨_, _, .inl (sm.seq h2), g2, x, y, u1, u2, rfl, rfl, rfl, ⟨dx, hx2⟩, hy.keep sm, w1, ?_⟩
    refine ⟨_, isk_bool (v := .bl _) trivial, ?_⟩
    refine ⟨_, _, .inl (sm.seq h3), g3, _, _, .inl (sm.seq h3), g4, u1, u2, t3.keep (same_tups sm), t4.keep (same_tups sm), w1, ?_⟩
    refine iteB (c := !decide (V.bl (aheadB u1 u2) = V.bl (aheadB u1 u2))) (fun h => absurd h (by simp)) (fun _ => ?_)
    exact ⟨sm, w1, _, _, _, _, rfl⟩

theorem okm_Grouped_Loose_told {P : Program} {w : World} {K : PySem.W.Frag} {mg : Str → Option Value} {base : Heap} {c : Ad} (T : Txt K mg c) : ∀ C, cs_Grouped_Loose c C → OkM P w K mg base 1 C "told" ["self"] (sp_Work_told K c C) := fun C h => ok_Work_told T (by
  rcases h with e | e
  · exact (.inr e)
  · exact (.inl e))
abbrev s_law : Stmt := topS 27
abbrev N_law : List Str := ["_law_script", "_law_state_here", "_law_group", "_law_at", "_law_groups", "_law_rows", "_law_k", "_law_works", "_law_anew", "_law_told_here", "_law_work"]
theorem sc_law : FnScope N_law ["_law_script"] (defScope s_law) := ⟨rfl, rfl, rfl, by decide +kernel, rfl, by decide +kernel, by decide +kernel⟩
def sp_law (K : PySem.W.Frag) : Sp := fun vs H Q E => arg1 (fun s => ∃ ns, ScrL K H s ns ∧ Wf H ∧ ∀ H', Q (.bl true) H') vs
theorem ok_law {P : Program} {w : World} {K : PySem.W.Frag} {mg : Str → Option Value} {base : Heap} {f : Addr} {fd : FuncData} (F : Fun K "law" "law" s_law f fd) {c : Ad} (T : Txt K mg c) : FnOk P w K mg base CX0 5 f fd ["_law_script"] (sp_law K) := by
  refine F.ok sc_law (fun vs H Q E h => ?_) (fun cdv A outer sh H vs Q E hr h => ?_)
  · obtain ⟨s, rfl, h⟩ := arg1.ex h
    rfl
  · obtain ⟨s, rfl, h⟩ := arg1.ex h
    refine ⟨_, pss_cons (ps_set (i := 1) sc_law.nd rfl (.inl rfl) (pe_f (ok__law_state (K := K) T) (hr.mono (by decide)) passL (pa_cons (pe_f (ok__law_cell_at (K := K) T) (hr.mono (by decide)) passL (pa_cons (lv 0) (pa_cons pe_int pa_nil))) (pa_cons pe_int pa_nil))))
      (pss_cons (ps_set (i := 2) sc_law.nd rfl (.inl rfl) (pe_f (ok__law_name (K := K) T) (hr.mono (by decide)) passL (pa_cons (lv 1) pa_nil)))
      (pss_cons (ps_set (i := 3) sc_law.nd rfl (.inl rfl) (pe_f (ok__law_digit (K := K) T) (hr.mono (by decide)) passL (pa_cons (lv 1) (pa_cons (pe_callB (callU_len (K := K)) (by rfl) T.m_len (by decide +kernel) (pa_cons (lv 2) pa_nil)) pa_nil))))
      (pss_cons (ps_set (i := 4) sc_law.nd rfl (.inl rfl) (pe_lst (pa_cons (lv 2) (pa_cons (pe_op (opU_add (K := K)) (pe_op (opU_add (K := K)) (pe_slice (slU (K := K)) (lv 2) po_none (po_someU (lv 3))) (pe_ix (ixU (K := K)) (pe_lst (pa_cons pe_str (pa_cons pe_str pa_nil))) (pe_callTy callU_int (by rfl) T.m_int (by decide +kernel) (pa_cons (pe_cmpR (opU_eq (K := K) hr) (pe_ix (ixU (K := K)) (lv 2) (lv 3) (fun _ _ => rfl)) pe_str (nomark _)) pa_nil)) (fun _ _ => rfl))) (pe_slice (slU (K := K)) (lv 2) (po_someU (pe_op (opU_add (K := K)) (lv 3) pe_int)) po_none)) pa_nil))))
      (pss_cons (ps_set (i := 5) sc_law.nd rfl (.inl rfl) (pe_lst pa_nil))
      (pss_cons (ps_for (PassesOwn.never) rfl (pi_range1 (by rfl) T.m_range (pa_cons (pe_op (opU_add (K := K)) pe_int (pe_callB (callU_min2 rfl) (by rfl) T.m_min (by decide +kernel) (pa_cons (pe_callB (callU_len (K := K)) (by rfl) T.m_len (by decide +kernel) (pa_cons (lv 0) pa_nil)) (pa_cons pe_int pa_nil)))) pa_nil)) (pg_name (i := 6) sc_law.nd rfl (.inl rfl))
      (pss_cons (ps_set (i := 1) sc_law.nd rfl (.inl rfl) (pe_f (ok__law_state (K := K) T) (hr.mono (by decide)) passL (pa_cons (pe_f (ok__law_cell_at (K := K) T) (hr.mono (by decide)) passL (pa_cons (lv 0) (pa_cons (lv 6) pa_nil))) (pa_cons (pe_op (opU_add (K := K)) (lv 6) pe_int) pa_nil))))
      (pss_one (ps_expr (pe_bm PySem.F.plainAttrs_list PySem.F.slot_list_append PySem.F.type_list_append mt_append (lv 5) (pa_cons (pe_f (ok__law_told (K := K) T) hr passL (pa_cons (lv 1) (pa_cons (lv 4) (pa_cons (lv 5) pa_nil)))) pa_nil))))))
      (pss_cons (ps_setLc (i := 7) (own := [("_law_told_here", 9)]) (g := gName 9) rfl sc_law.nd rfl rfl (sw_true rfl rfl rfl (by decide +kernel)) (pi_listK (K := K) (lv 5)) (blkOk_by (own := [("_law_told_here", 9)]) (N := N_law) (sc := defScope s_law) (by decide +kernel)) (fun _ _ _ _ _ => pg_name (i := 9) sc_law.nd rfl (.inl rfl)) (fun _ _ _ _ _ => pts_nil) (fun _ _ _ _ _ => pe_fS (ok_work_of (K := K) T) hr takes0 (pa_cons (lv 9) pa_nil)))
      (pss_cons (ps_setLc (i := 8) (own := [("_law_told_here", 9)]) (g := gName 9) rfl sc_law.nd rfl rfl (sw_true rfl rfl rfl (by decide +kernel)) (pi_listK (K := K) (lv 5)) (blkOk_by (own := [("_law_told_here", 9)]) (N := N_law) (sc := defScope s_law) (by decide +kernel)) (fun _ _ _ _ _ => pg_name (i := 9) sc_law.nd rfl (.inl rfl)) (fun _ _ _ _ _ => pts_nil) (fun _ _ _ _ _ => pe_f (ok__law_by_itself (K := K) T) (hr.mono (by decide)) passL (pa_cons (lv 9) pa_nil)))
      (pss_cons (ps_set (i := 3) sc_law.nd rfl (.inl rfl) (pe_f (ok__law_digit (K := K) T) (hr.mono (by decide)) passL (pa_cons (lv 1) (pa_cons pe_int pa_nil))))
      (pss_cons (ps_if (PW.pt (pw_or (pt_not (pt_truthU (K := K) (pe_f (ok__law_pairs_right (K := K) T) (hr.mono (by decide)) passL (pa_cons (lv 7) (pa_cons (lv 7) (pa_cons (lv 5) (pa_cons (lv 3) pa_nil))))) (by intro _; rfl))) (pw_or1 (pt_not (pt_truthU (K := K) (pe_f (ok__law_pairs_right (K := K) T) (hr.mono (by decide)) passL (pa_cons (lv 7) (pa_cons (lv 8) (pa_cons (lv 5) (pa_cons (pe_op (opU_add (K := K)) (lv 3) pe_int) pa_nil))))) (by intro _; rfl))))))
      (pss_one (ps_ret pe_bl)) pss_nil)
      (pss_one (ps_ret (pe_andU (K := K) (pe_f (ok__law_pairs_right (K := K) T) (hr.mono (by decide)) passL (pa_cons (lv 7) (pa_cons (lv 7) (pa_cons (lv 5) (pa_cons pe_int pa_nil))))) (pe_one (pe_cmpR (opU_eq (K := K) hr) (pe_lc (own := [("_law_work", 10)]) (g := gName 10) rfl sc_law.nd (pi_listK (K := K) (lv 7)) (blkOk_by (own := [("_law_work", 10)]) (N := N_law) (sc := defScope s_law) (by decide +kernel)) (fun _ _ _ _ _ => pg_name (i := 10) sc_law.nd rfl (.inl rfl)) (fun _ _ _ _ _ => pts_nil) (fun _ _ _ _ _ => pe_mS0 (CS := cs_Grouped_Loose c) (lv 10) (okc_Grouped_Loose T) (okm_Grouped_Loose_told T) (hr.mono (by decide)) takes0)) (lv 5) (nomark _))))))))))))))), ?_⟩
    obtain ⟨ns, ⟨a0, rfl, hS, hl⟩, wf, k⟩ := h
    refine ⟨ns, _, ⟨a0, rfl, hS, hl⟩, rfl, by decide, wf, fun n => ?_⟩
    refine ⟨n, _, rfl, rfl, by decide, by decide, wf, fun p q a na hp => ?_⟩
    have s0 : St2 (upd H a (stL p q)) a := ⟨p, q, upd_same, hp⟩
    have d0 := Dr.refl s0 (wf.new (o := stL p q) trivial na)
    have sm0 : Same H (upd H a (stL p q)) := same_new na
    have nax : a0 ≠ a ∨ True := .inr trivial
    have smH : ∀ {H' : Hp}, Dr a (upd H a (stL p q)) H' → Same H H' := fun {H'} d b o e => d.kp b o (ne_of_none e na) (sm0 b o e)
    generalize upd H a (stL p q) = HB at s0 d0 sm0 smH ⊢
    refine ⟨a, rfl, s0, d0.wf, fun gr p1 q1 sgr n1 => ?_⟩
    have d1 := d0.drawn (q := q1) n1
    generalize upd HB a (stL p1 q1) = H1 at d1 ⊢
    have hg := sgr.len
    have lg : gr.length ≤ sizeLine := line_of (by omega)
    refine ⟨lg, ?_⟩
    refine ⟨a, _, rfl, rfl, d1.st, bas_lt (by omega) (by omega), d1.wf, fun r2 p2 q2 g2 l2 n2 => ?_⟩
    have d2 := d1.drawn (q := q2) n2
    generalize upd H1 a (stL p2 q2) = H2 at d2  ⊢
    refine ⟨lg, ?_⟩
    refine ⟨line_of (show 2 ≤ 16777216 by decide), fun x1 nx1 => ?_⟩
    have nex1 := st_ne d2.st nx1
    have d3 := d2.new (p := x1) (o := .lst [.str "x", .str "y"]) nx1 trivial
    have ex1 : (upd H2 x1 (.lst [.str "x", .str "y"])) x1 = some (.lst [.str "x", .str "y"]) := upd_same
    generalize upd H2 x1 (.lst [.str "x", .str "y"]) = H3 at d3 ex1  ⊢
    obtain ⟨cc, hcc, _⟩ := at_lt (xs := gr.cps.toList) g2 (by rw [Array.length_toList]; exact l2)
    refine ⟨lg, cc, hcc, ?_⟩
    obtain ⟨v1, hv1, m1⟩ := at_lt (xs := [V.str "x", V.str "y"]) (i := if decide (V.str ⟨#[cc]⟩ = V.str "x") = true then 1 else 0) (by split <;> decide) (by split <;> decide)
    refine ⟨_, v1, .inl (.inl (.inl ex1)), hv1, ?_⟩
    obtain ⟨cx, rfl, hcx⟩ : ∃ x : Nat, v1 = .str ⟨#[x]⟩ ∧ x ∈ lets := by
      simp only [List.mem_cons, List.not_mem_nil, or_false] at m1
      rcases m1 with rfl | rfl
      · exact ⟨120, rfl, by decide +kernel⟩
      · exact ⟨121, rfl, by decide +kernel⟩
    have la : ∀ x y : Str, (x ++ y).length = x.length + y.length := fun x y => Str.length_append x y
    have c1 : ∀ lo hi, (cutS gr lo hi).length ≤ 8 := fun lo hi => Nat.le_trans (cutS_length gr lo hi) hg.2
    have lc : ((⟨#[cx]⟩ : Str)).length = 1 := rfl
    refine ⟨line_of (by have := c1 none (some r2); omega), lg, line_of (by have := c1 none (some r2); have := c1 (some (r2 + 1)) none; rw [la]; omega), ?_⟩
    have sg2 := sgr.put g2 l2 hcx
    generalize cutS gr none (some r2) ++ ⟨#[cx]⟩ ++ cutS gr (some (r2 + 1)) none = gn at sg2 ⊢
    refine ⟨line_of (show 2 ≤ 16777216 by decide), fun gs ngs => ?_⟩
    have negs := st_ne d3.st ngs
    have d4 := d3.new (p := gs) (o := .lst [.str gr, .str gn]) ngs trivial
    have egs : (upd H3 gs (.lst [.str gr, .str gn])) gs = some (.lst [.str gr, .str gn]) := upd_same
    generalize upd H3 gs (.lst [.str gr, .str gn]) = H4 at d4 egs  ⊢
    refine ⟨line_of (show 0 ≤ 16777216 by decide), fun R nR => ?_⟩
    have neR := st_ne d4.st nR
    have d5 := d4.new (p := R) (o := .lst []) nR trivial
    replace egs := same_new (o := .lst []) nR _ _ egs
    have eR : (upd H4 R (.lst [])) R = some (.lst []) := upd_same
    generalize upd H4 R (.lst []) = H5 at d5 eR egs ⊢
    have sm5 := smH d5
    have nR0 : H R = none := sm0.free (d4.free nR)
    refine .inl ⟨_, .inl (sm5.seq hS), _, rfl, by split <;> omega, by split <;> omega, ?_⟩
    refine for_range (lo := 0) (n := _) (fun i σ H' => ∃ (b : Addr) (vs : List V) (ws : List W5) (x6 x7 x8 x9 x10 : Option V), σ = [some (.ref a0), some (.ref b), some (.str gr), some (.int r2), some (.ref gs), some (.ref R), x6, x7, x8, x9, x10] ∧ St2 H' b ∧ H' gs = some (.lst [.str gr, .str gn]) ∧ H' R = some (.lst vs) ∧ R ≠ b ∧ Al2 (TupAt K H') vs ws ∧ (∀ w ∈ ws, WkOk w) ∧ vs.length = i ∧ Same H H' ∧ Wf H') ⟨a, [], [], _, _, _, _, _, rfl, d5.st, egs, eR, neR, .nil, by simp, rfl, sm5, d5.wf⟩ (fun i σ HL hi hp => ?_) (fun σ HZ1 hp => ?_)
    · obtain ⟨b0, vs, ws, x6, x7, x8, x9, x10, rfl, sb0, eg, eR, nRb, hv, hw, lR, sm, w1⟩ := hp
      have hi2 : i < 14 := by
        have e : ((ns.map V.int).length : Int) = ns.length := by rw [List.length_map]
        rw [e] at hi
        split at hi <;> omega
      refine ⟨ns, _, ⟨a0, rfl, sm.seq hS, hl⟩, rfl, by omega, w1, fun n => ?_⟩
      refine ⟨n, _, rfl, rfl, by omega, by omega, w1, fun p q b nb hp => ?_⟩
      have sB : St2 (upd HL b (stL p q)) b := ⟨p, q, upd_same, hp⟩
      have smB : Same HL (upd HL b (stL p q)) := same_new nb
      have wB := w1.new (o := stL p q) trivial nb
      have nRb2 : R ≠ b := ne_of_none eR nb
      have ngb : gs ≠ b := ne_of_none eg nb
      have smD : ∀ {H' : Hp}, Dr b (upd HL b (stL p q)) H' → Same HL H' := fun {H'} d c o e => d.kp c o (ne_of_none e nb) (smB c o e)
      replace eg := smB _ _ eg
      replace eR := smB _ _ eR
      have hvB : Al2 (TupAt K (upd HL b (stL p q))) vs ws := hv.mono fun _ _ p => p.keep (same_tups smB)
      generalize upd HL b (stL p q) = HB2 at sB smB wB smD eg eR hvB ⊢
      refine ⟨.inl ⟨rfl, _, .inl (.inl eR)⟩, ?_⟩
      refine ⟨b, gs, R, gr, gn, vs, ws, rfl, rfl, rfl, sB, eg, sgr, sg2, eR, nRb2, hvB, hw, by omega, wB, fun w t HT ok dT eT => ?_⟩
      replace eR := dT.kp _ _ nRb2 eR
      replace eg := dT.kp _ _ ngb eg
      have smT := smD dT
      have hvT : Al2 (TupAt K HT) (vs ++ [.ref t]) (ws ++ [w]) := (hv.mono fun _ _ p => p.keep (same_tups smT)).snoc ⟨t, rfl, .inl (.inl eT)⟩
      refine ⟨R, vs, .ref t, rfl, rfl, eR, line_lt (by omega), ?_⟩
      have ngR : gs ≠ R := fun e => by
        subst e
        rw [eg] at eR
        cases vs with
        | nil => cases eR
        | cons z r =>
          obtain ⟨_, _, ⟨_, rfl, _⟩⟩ := hv.nth (i := 0) rfl
          cases eR
      refine ⟨b, _, ws ++ [w], _, _, _, _, _, rfl, st_put dT.st nRb2, (upd_ne ngR).trans eg, upd_same, nRb2, hvT.mono fun _ _ p => p.keep (tups_put eR), fun x hx => ?_, by rw [List.length_append, lR]; rfl, fun c o e => ?_, dT.wf.at trivial eR fun x z => by cases z⟩
      · rcases List.mem_append.mp hx with h | h
        · exact hw x h
        · rw [List.mem_singleton.mp h]
          exact ok
      · exact same_put (sm.trans smT) nR0 c o e
    · obtain ⟨b, vs, ws, x6, x7, x8, x9, x10, rfl, sb, eg, eR, nRb, hv, hw, lR, sm, w1⟩ := hp
      have lv : vs.length ≤ 20 := by
        have e : ((ns.map V.int).length : Int) = ns.length := by rw [List.length_map]
        rw [e] at lR
        split at lR <;> omega
      have lvw := hv.len
      have wZ1 := w1
      have eR1 := eR
      have hv1 := hv
      have lR2 := lv
      refine ⟨R, rfl, ⟨vs, .inl (.inl eR1)⟩, fun D1 nD1 => ?_⟩
      refine lc_list (K := K) (a := R) (xs := vs) (fun i H' => ∃ acc, H' D1 = some (.lst acc) ∧ Al2 (WkV c H') acc (ws.take i) ∧ Same HZ1 H' ∧ Wf H') ⟨[], upd_same, .nil, same_new nD1, wZ1.new trivial nD1⟩ (fun i H' _ hp => by
        obtain ⟨acc, _, _, s, _⟩ := hp
        exact .inl (.inl (s _ _ eR1))) (fun i x H' hx hp => ?_) (fun HZ2 hp => ?_)
      · obtain ⟨acc, eD, al, s, wH⟩ := hp
        have la := al.len
        have li : i < vs.length := (List.getElem?_eq_some_iff.mp hx).1
        have la2 : acc.length ≤ 20 := by
          rw [la, List.length_take]
          omega
        obtain ⟨w, hw1, p, rfl, hpt⟩ := hv1.nth hx
        have ok := hw w (List.mem_of_getElem? hw1)
        refine ⟨rfl, wH, .inl ⟨w, work_dp (same_tups s _ _ hpt), ok.sm, ok.1, fun x2 H2 nx2 s2 wH2 wk => ?_⟩⟩
        have eD2 := s2 _ _ eD
        refine ⟨acc, eD2, line_lt (by omega), acc ++ [.ref x2], upd_same, ?_, ?_, wH2.at trivial eD2 fun x z => by cases z⟩
        · rw [List.take_add_one, hw1]
          exact (((al.mono fun _ _ q => WkV.keep q s2).snoc ⟨x2, rfl, wk⟩).mono fun _ _ q => WkV.put q eD2)
        · exact same_put (s.trans s2) nD1
      obtain ⟨acc1, eD1, al1, s1, wZ2⟩ := hp
      have nDb : D1 ≠ b := st_ne sb nD1
      have eR2 := s1 _ _ eR1
      have hv2 := hv1.mono fun _ _ p => p.keep (same_tups s1)
      refine ⟨R, rfl, ⟨vs, .inl (.inl eR2)⟩, fun D2 nD2 => ?_⟩
      refine lc_list (K := K) (a := R) (xs := vs) (fun i H' => ∃ acc, H' D2 = some (.lst acc) ∧ Al2 (WkV c H') acc (ws.take i) ∧ Same HZ2 H' ∧ Wf H') ⟨[], upd_same, .nil, same_new nD2, wZ2.new trivial nD2⟩ (fun i H' _ hp => by
        obtain ⟨acc, _, _, s, _⟩ := hp
        exact .inl (.inl (s _ _ eR2))) (fun i x H' hx hp => ?_) (fun HZ3 hp => ?_)
      · obtain ⟨acc, eD, al, s, wH⟩ := hp
        have la := al.len
        have li : i < vs.length := (List.getElem?_eq_some_iff.mp hx).1
        have la2 : acc.length ≤ 20 := by
          rw [la, List.length_take]
          omega
        obtain ⟨w, hw1, p, rfl, hpt⟩ := hv2.nth hx
        have ok := hw w (List.mem_of_getElem? hw1)
        refine ⟨rfl, p, w, rfl, same_tups s _ _ hpt, wH, fun x2 H2 nx2 s2 wH2 wk => ?_⟩
        have eD2 := s2 _ _ eD
        refine ⟨acc, eD2, line_lt (by omega), acc ++ [.ref x2], upd_same, ?_, ?_, wH2.at trivial eD2 fun x z => by cases z⟩
        · rw [List.take_add_one, hw1]
          exact (((al.mono fun _ _ q => WkV.keep q s2).snoc ⟨x2, rfl, wk⟩).mono fun _ _ q => WkV.put q eD2)
        · exact same_put (s.trans s2) nD2
      obtain ⟨acc2, eD2, al2, s2, wZ3⟩ := hp
      have sb2 : St2 HZ2 b := by
        obtain ⟨p, q, e, h⟩ := sb
        exact ⟨p, q, s1 _ _ e, h⟩
      have nDb2 : D2 ≠ b := st_ne sb2 nD2
      have sb3 : St2 HZ3 b := by
        obtain ⟨p, q, e, h⟩ := sb2
        exact ⟨p, q, s2 _ _ e, h⟩
      have eD13 := s2 _ _ eD1
      have al13 := al1.mono fun _ _ q => WkV.keep q s2
      have eR3 := s2 _ _ eR2
      have hv3 := hv2.mono fun _ _ p => p.keep (same_tups s2)
      have eDR : ws.take vs.length = ws := List.take_of_length_le (by omega)
      rw [eDR] at al13 al2
      have nDR : ws.length ≤ 20 := by omega
      refine ⟨b, 169, rfl, rfl, sb3, bas_lt (by decide) (by decide), wZ3, fun r p q g l n => ?_⟩
      have dZ4 := (Dr.refl sb3 wZ3).drawn (q := q) n
      generalize upd HZ3 b (stL p q) = HZ4 at dZ4 ⊢
      have e1 := dZ4.kp _ _ nDb eD13
      have e2 := dZ4.kp _ _ nDb2 eD2
      have e3 := dZ4.kp _ _ nRb eR3
      have f1 := al13.mono fun _ _ q => WkV.drawn q dZ4 sb3
      have f2 := al2.mono fun _ _ q => WkV.drawn q dZ4 sb3
      have f3 := hv3.mono fun _ _ q => q.keep (dZ4.tups sb3)
      have w4 := dZ4.wf
      refine ⟨D1, D1, R, acc1, acc1, vs, ws, r, rfl, rfl, rfl, rfl, g, by omega, .inl (.inl e1), .inl (.inl e1), .inl (.inl e3), f1, f1, f3, nDR, w4, ?_⟩
      refine ⟨D1, D2, R, acc1, acc2, vs, ws, r + 7, rfl, rfl, rfl, rfl, by omega, by omega, .inl (.inl e1), .inl (.inl e2), .inl (.inl e3), f1, f2, f3, nDR, w4, ?_⟩
      refine ⟨D1, D1, R, acc1, acc1, vs, ws, 0, rfl, rfl, rfl, rfl, by omega, by omega, .inl (.inl e1), .inl (.inl e1), .inl (.inl e3), f1, f1, f3, nDR, w4, ?_⟩
      refine ⟨D1, rfl, ⟨acc1, .inl (.inl e1)⟩, fun D3 nD3 => ?_⟩
      refine lc_list (K := K) (a := D1) (xs := acc1) (fun i H' => ∃ acc, H' D3 = some (.lst acc) ∧ Al2 (TupAt K H') acc (ws.take i) ∧ Same HZ4 H' ∧ Wf H') ⟨[], upd_same, .nil, same_new nD3, w4.new trivial nD3⟩ (fun i H' _ hp => by
        obtain ⟨acc, _, _, s, _⟩ := hp
        exact .inl (.inl (s _ _ e1))) (fun i x H' hx hp => ?_) (fun HZ5 hp => ?_)
      · obtain ⟨acc, eD, al, s, wH⟩ := hp
        have la := al.len
        have l1 := f1.len
        have li : i < acc1.length := (List.getElem?_eq_some_iff.mp hx).1
        have la2 : acc.length ≤ 20 := by
          rw [la, List.length_take]
          omega
        obtain ⟨w, hw1, x2, rfl, hx2⟩ := f1.nth hx
        obtain ⟨dx, hx3⟩ := hx2.keep s
        refine ⟨rfl, x2, clsW c w, dx, fsW w, rfl, hx3, csW c w, rfl, x2, w, dx, rfl, hx3, wH, fun p2 np2 => ?_⟩
        have s2 : Same H' (upd H' p2 (.tup (tupW w))) := same_new np2
        have e4 : (upd H' p2 (.tup (tupW w))) p2 = some (.tup (tupW w)) := upd_same
        have wH2 : Wf (upd H' p2 (.tup (tupW w))) := wH.new trivial np2
        generalize upd H' p2 (.tup (tupW w)) = H2 at s2 e4 wH2 ⊢
        have eD2 := s2 _ _ eD
        refine ⟨acc, eD2, line_lt (by omega), acc ++ [.ref p2], upd_same, ?_, ?_, wH2.at trivial eD2 fun x z => by cases z⟩
        · rw [List.take_add_one, hw1]
          exact (((al.mono fun _ _ q => TupAt.keep q (same_tups s2)).snoc ⟨p2, rfl, .inl (.inl e4)⟩).mono fun _ _ q => TupAt.keep q (tups_put eD2))
        · exact same_put (s.trans s2) nD3
      · obtain ⟨acc3, eD3, al3, s3, wZ5⟩ := hp
        have l1 := f1.len
        have eDR : ws.take acc1.length = ws := List.take_of_length_le (by omega)
        rw [eDR] at al3
        have f5 := f3.mono fun _ _ q => TupAt.keep q (same_tups s3)
        refine ⟨.list (ws.map workD), .list (ws.map workD), .lst (.inl (.inl eD3)) (tups_dpa al3), .lst (.inl (.inl (s3 _ _ e3))) (tups_dpa f5), works_shaped hw, works_shaped hw, ?_⟩
        rw [works_eqv hw]
        exact k _
theorem all_mk {l : PySem.W.OpenLaw} {w : World} {K : PySem.W.Frag} {h : Heap} {mg : Str → Option Value} {fa : Addr} (X : K.In h) (G : h.Ns mainGlobals mg) (hfa : mg "law" = some (.ref fa))
    {f1 : Addr} {od1 an1 : Option Addr} {sl1 : Array (Option Value)} {oc1 kV1 dc1 pm1 cd1 ct1 : Value}
    (a1 : PySem.W.nsIn K mainGlobals "is_name" = some (some (.ref f1))) (l1 : K.lookup f1 = some ⟨oc1, od1, .func (PySem.W.fnOf "is_name" "is_name" (defArgs (topS 7)) (defBody (topS 7)) (defScope (topS 7)) .none kV1 dc1 pm1 an1 cd1 ct1), sl1⟩) (c1 : PySem.W.codeIn K cd1 "is_name" = true) (k1 : PySem.W.keepIn K (.ref f1) = true)
    {f2 : Addr} {od2 an2 : Option Addr} {sl2 : Array (Option Value)} {oc2 kV2 dc2 pm2 cd2 ct2 : Value}
    (a2 : PySem.W.nsIn K mainGlobals "is_whole" = some (some (.ref f2))) (l2 : K.lookup f2 = some ⟨oc2, od2, .func (PySem.W.fnOf "is_whole" "is_whole" (defArgs (topS 8)) (defBody (topS 8)) (defScope (topS 8)) .none kV2 dc2 pm2 an2 cd2 ct2), sl2⟩) (c2 : PySem.W.codeIn K cd2 "is_whole" = true) (k2 : PySem.W.keepIn K (.ref f2) = true)
    {f3 : Addr} {od3 an3 : Option Addr} {sl3 : Array (Option Value)} {oc3 kV3 dc3 pm3 cd3 ct3 : Value}
    (a3 : PySem.W.nsIn K mainGlobals "is_moment" = some (some (.ref f3))) (l3 : K.lookup f3 = some ⟨oc3, od3, .func (PySem.W.fnOf "is_moment" "is_moment" (defArgs (topS 9)) (defBody (topS 9)) (defScope (topS 9)) .none kV3 dc3 pm3 an3 cd3 ct3), sl3⟩) (c3 : PySem.W.codeIn K cd3 "is_moment" = true) (k3 : PySem.W.keepIn K (.ref f3) = true)
    {f4 : Addr} {od4 an4 : Option Addr} {sl4 : Array (Option Value)} {oc4 kV4 dc4 pm4 cd4 ct4 : Value}
    (a4 : PySem.W.nsIn K mainGlobals "is_work" = some (some (.ref f4))) (l4 : K.lookup f4 = some ⟨oc4, od4, .func (PySem.W.fnOf "is_work" "is_work" (defArgs (topS 15)) (defBody (topS 15)) (defScope (topS 15)) .none kV4 dc4 pm4 an4 cd4 ct4), sl4⟩) (c4 : PySem.W.codeIn K cd4 "is_work" = true) (k4 : PySem.W.keepIn K (.ref f4) = true)
    {f5 : Addr} {od5 an5 : Option Addr} {sl5 : Array (Option Value)} {oc5 kV5 dc5 pm5 cd5 ct5 : Value}
    (a5 : PySem.W.nsIn K mainGlobals "work_of" = some (some (.ref f5))) (l5 : K.lookup f5 = some ⟨oc5, od5, .func (PySem.W.fnOf "work_of" "work_of" (defArgs (topS 16)) (defBody (topS 16)) (defScope (topS 16)) .none kV5 dc5 pm5 an5 cd5 ct5), sl5⟩) (c5 : PySem.W.codeIn K cd5 "work_of" = true) (k5 : PySem.W.keepIn K (.ref f5) = true)
    {f6 : Addr} {od6 an6 : Option Addr} {sl6 : Array (Option Value)} {oc6 kV6 dc6 pm6 cd6 ct6 : Value}
    (a6 : PySem.W.nsIn K mainGlobals "_law_cell_at" = some (some (.ref f6))) (l6 : K.lookup f6 = some ⟨oc6, od6, .func (PySem.W.fnOf "_law_cell_at" "_law_cell_at" (defArgs (topS 18)) (defBody (topS 18)) (defScope (topS 18)) .none kV6 dc6 pm6 an6 cd6 ct6), sl6⟩) (c6 : PySem.W.codeIn K cd6 "_law_cell_at" = true) (k6 : PySem.W.keepIn K (.ref f6) = true)
    {f7 : Addr} {od7 an7 : Option Addr} {sl7 : Array (Option Value)} {oc7 kV7 dc7 pm7 cd7 ct7 : Value}
    (a7 : PySem.W.nsIn K mainGlobals "_law_state" = some (some (.ref f7))) (l7 : K.lookup f7 = some ⟨oc7, od7, .func (PySem.W.fnOf "_law_state" "_law_state" (defArgs (topS 19)) (defBody (topS 19)) (defScope (topS 19)) .none kV7 dc7 pm7 an7 cd7 ct7), sl7⟩) (c7 : PySem.W.codeIn K cd7 "_law_state" = true) (k7 : PySem.W.keepIn K (.ref f7) = true)
    {f8 : Addr} {od8 an8 : Option Addr} {sl8 : Array (Option Value)} {oc8 kV8 dc8 pm8 cd8 ct8 : Value}
    (a8 : PySem.W.nsIn K mainGlobals "_law_mixed" = some (some (.ref f8))) (l8 : K.lookup f8 = some ⟨oc8, od8, .func (PySem.W.fnOf "_law_mixed" "_law_mixed" (defArgs (topS 20)) (defBody (topS 20)) (defScope (topS 20)) .none kV8 dc8 pm8 an8 cd8 ct8), sl8⟩) (c8 : PySem.W.codeIn K cd8 "_law_mixed" = true) (k8 : PySem.W.keepIn K (.ref f8) = true)
    {f9 : Addr} {od9 an9 : Option Addr} {sl9 : Array (Option Value)} {oc9 kV9 dc9 pm9 cd9 ct9 : Value}
    (a9 : PySem.W.nsIn K mainGlobals "_law_digit" = some (some (.ref f9))) (l9 : K.lookup f9 = some ⟨oc9, od9, .func (PySem.W.fnOf "_law_digit" "_law_digit" (defArgs (topS 21)) (defBody (topS 21)) (defScope (topS 21)) .none kV9 dc9 pm9 an9 cd9 ct9), sl9⟩) (c9 : PySem.W.codeIn K cd9 "_law_digit" = true) (k9 : PySem.W.keepIn K (.ref f9) = true)
    {f10 : Addr} {od10 an10 : Option Addr} {sl10 : Array (Option Value)} {oc10 kV10 dc10 pm10 cd10 ct10 : Value}
    (a10 : PySem.W.nsIn K mainGlobals "_law_name" = some (some (.ref f10))) (l10 : K.lookup f10 = some ⟨oc10, od10, .func (PySem.W.fnOf "_law_name" "_law_name" (defArgs (topS 22)) (defBody (topS 22)) (defScope (topS 22)) .none kV10 dc10 pm10 an10 cd10 ct10), sl10⟩) (c10 : PySem.W.codeIn K cd10 "_law_name" = true) (k10 : PySem.W.keepIn K (.ref f10) = true)
    {f11 : Addr} {od11 an11 : Option Addr} {sl11 : Array (Option Value)} {oc11 kV11 dc11 pm11 cd11 ct11 : Value}
    (a11 : PySem.W.nsIn K mainGlobals "_law_told" = some (some (.ref f11))) (l11 : K.lookup f11 = some ⟨oc11, od11, .func (PySem.W.fnOf "_law_told" "_law_told" (defArgs (topS 23)) (defBody (topS 23)) (defScope (topS 23)) .none kV11 dc11 pm11 an11 cd11 ct11), sl11⟩) (c11 : PySem.W.codeIn K cd11 "_law_told" = true) (k11 : PySem.W.keepIn K (.ref f11) = true)
    {f12 : Addr} {od12 an12 : Option Addr} {sl12 : Array (Option Value)} {oc12 kV12 dc12 pm12 cd12 ct12 : Value}
    (a12 : PySem.W.nsIn K mainGlobals "_law_due" = some (some (.ref f12))) (l12 : K.lookup f12 = some ⟨oc12, od12, .func (PySem.W.fnOf "_law_due" "_law_due" (defArgs (topS 24)) (defBody (topS 24)) (defScope (topS 24)) .none kV12 dc12 pm12 an12 cd12 ct12), sl12⟩) (c12 : PySem.W.codeIn K cd12 "_law_due" = true) (k12 : PySem.W.keepIn K (.ref f12) = true)
    {f13 : Addr} {od13 an13 : Option Addr} {sl13 : Array (Option Value)} {oc13 kV13 dc13 pm13 cd13 ct13 : Value}
    (a13 : PySem.W.nsIn K mainGlobals "_law_pairs_right" = some (some (.ref f13))) (l13 : K.lookup f13 = some ⟨oc13, od13, .func (PySem.W.fnOf "_law_pairs_right" "_law_pairs_right" (defArgs (topS 25)) (defBody (topS 25)) (defScope (topS 25)) .none kV13 dc13 pm13 an13 cd13 ct13), sl13⟩) (c13 : PySem.W.codeIn K cd13 "_law_pairs_right" = true) (k13 : PySem.W.keepIn K (.ref f13) = true)
    {f14 : Addr} {od14 an14 : Option Addr} {sl14 : Array (Option Value)} {oc14 kV14 dc14 pm14 cd14 ct14 : Value}
    (a14 : PySem.W.nsIn K mainGlobals "_law_by_itself" = some (some (.ref f14))) (l14 : K.lookup f14 = some ⟨oc14, od14, .func (PySem.W.fnOf "_law_by_itself" "_law_by_itself" (defArgs (topS 26)) (defBody (topS 26)) (defScope (topS 26)) .none kV14 dc14 pm14 an14 cd14 ct14), sl14⟩) (c14 : PySem.W.codeIn K cd14 "_law_by_itself" = true) (k14 : PySem.W.keepIn K (.ref f14) = true)
    {f15 : Addr} {od15 an15 : Option Addr} {sl15 : Array (Option Value)} {oc15 kV15 dc15 pm15 cd15 ct15 : Value}
    (a15 : PySem.W.nsIn K mainGlobals "law" = some (some (.ref f15))) (l15 : K.lookup f15 = some ⟨oc15, od15, .func (PySem.W.fnOf "law" "law" (defArgs (topS 27)) (defBody (topS 27)) (defScope (topS 27)) .none kV15 dc15 pm15 an15 cd15 ct15), sl15⟩) (c15 : PySem.W.codeIn K cd15 "law" = true) (k15 : PySem.W.keepIn K (.ref f15) = true)
    (hn0 : PySem.W.specialIn K (.builtin "object.__class__") "__get__" = some (some (.builtin "getset_descriptor.__get__")))
    (ht0 : PySem.W.takesIn K (.builtin "object.__class__") = some true)
    {C_LentError : Addr}
    (aC_LentError : PySem.W.nsIn K mainGlobals "LentError" = some (some (.ref C_LentError)))
    (ha_LentError : PySem.W.findIn K (.ref C_LentError) "__class__" = some (some (.builtin "object.__class__")))
    (hm_LentError : PySem.W.mroIn K C_LentError (.type "object") = some true)
    (hd_LentError : PySem.W.hasDictIn K C_LentError = true)
    (kc_LentError : PySem.W.keepIn K (.ref C_LentError) = true)
    (xx_LentError : PySem.W.excIn K C_LentError R.veB "ValueError.__new__" = true)
    (xb_LentError : PySem.W.subIn K (.ref C_LentError) (.type "BaseException") = some true)
    (xt_LentError : PySem.W.typeIn K (.ref C_LentError) = some (.type "type"))
    (xv_LentError : PySem.W.subIn K (.ref C_LentError) (.type "ValueError") = some true)
    (xg_LentError : PySem.W.findIn K (.ref C_LentError) "__getattribute__" = some (some (.builtin "BaseException.__getattribute__")))
    (xh_LentError : PySem.W.findIn K (.ref C_LentError) "__getattr__" = some none)
    {C_NoWork : Addr}
    (aC_NoWork : PySem.W.nsIn K mainGlobals "NoWork" = some (some (.ref C_NoWork)))
    (ha_NoWork : PySem.W.findIn K (.ref C_NoWork) "__class__" = some (some (.builtin "object.__class__")))
    (hm_NoWork : PySem.W.mroIn K C_NoWork (.type "object") = some true)
    (hd_NoWork : PySem.W.hasDictIn K C_NoWork = true)
    (kc_NoWork : PySem.W.keepIn K (.ref C_NoWork) = true)
    (xx_NoWork : PySem.W.excIn K C_NoWork R.veB "ValueError.__new__" = true)
    (xb_NoWork : PySem.W.subIn K (.ref C_NoWork) (.type "BaseException") = some true)
    (xt_NoWork : PySem.W.typeIn K (.ref C_NoWork) = some (.type "type"))
    (xv_NoWork : PySem.W.subIn K (.ref C_NoWork) (.type "ValueError") = some true)
    (xg_NoWork : PySem.W.findIn K (.ref C_NoWork) "__getattribute__" = some (some (.builtin "BaseException.__getattribute__")))
    (xh_NoWork : PySem.W.findIn K (.ref C_NoWork) "__getattr__" = some none)
    {C_Work : Addr}
    (aC_Work : PySem.W.nsIn K mainGlobals "Work" = some (some (.ref C_Work)))
    (ha_Work : PySem.W.findIn K (.ref C_Work) "__class__" = some (some (.builtin "object.__class__")))
    (hm_Work : PySem.W.mroIn K C_Work (.type "object") = some true)
    (hd_Work : PySem.W.hasDictIn K C_Work = true)
    (kc_Work : PySem.W.keepIn K (.ref C_Work) = true)
    (pg_Work : PySem.W.plainGet K C_Work Str.empty = true)
    (po_Work : PySem.W.plainOver K C_Work = true)
    (sa_Work : PySem.W.findIn K (.ref C_Work) "__setattr__" = some (some (.builtin "object.__setattr__")))
    (mk_Work : PySem.W.makesIn K C_Work = true)
    {fIWork : Addr} {odIWork anIWork : Option Addr} {slIWork : Array (Option Value)} {ocIWork kVIWork dcIWork pmIWork cdIWork ctIWork : Value}
    (aIWork : PySem.W.findIn K (.ref C_Work) "__init__" = some (some (.ref fIWork)))
    (iIWork : PySem.W.isFn K (.ref fIWork) = true)
    (lIWork : K.lookup fIWork = some ⟨ocIWork, odIWork, .func (PySem.W.fnOf "__init__" "Work.__init__" (defArgs (inClass (topS 12) 0)) (defBody (inClass (topS 12) 0)) (defScope (inClass (topS 12) 0)) .none kVIWork dcIWork pmIWork anIWork cdIWork ctIWork), slIWork⟩)
    (cIWork : PySem.W.codeIn K cdIWork "Work.__init__" = true)
    (kIWork : PySem.W.keepIn K (.ref fIWork) = true)
    {fMWork_told : Addr} {odMWork_told anMWork_told : Option Addr} {slMWork_told : Array (Option Value)} {ocMWork_told kVMWork_told dcMWork_told pmMWork_told cdMWork_told ctMWork_told : Value}
    (aMWork_told : PySem.W.findIn K (.ref C_Work) "told" = some (some (.ref fMWork_told)))
    (iMWork_told : PySem.W.isFn K (.ref fMWork_told) = true)
    (lMWork_told : K.lookup fMWork_told = some ⟨ocMWork_told, odMWork_told, .func (PySem.W.fnOf "told" "Work.told" (defArgs (inClass (topS 12) 1)) (defBody (inClass (topS 12) 1)) (defScope (inClass (topS 12) 1)) .none kVMWork_told dcMWork_told pmMWork_told anMWork_told cdMWork_told ctMWork_told), slMWork_told⟩)
    (cMWork_told : PySem.W.codeIn K cdMWork_told "Work.told" = true)
    (kMWork_told : PySem.W.keepIn K (.ref fMWork_told) = true)
    {fMWork_goes_ahead : Addr} {odMWork_goes_ahead anMWork_goes_ahead : Option Addr} {slMWork_goes_ahead : Array (Option Value)} {ocMWork_goes_ahead kVMWork_goes_ahead dcMWork_goes_ahead pmMWork_goes_ahead cdMWork_goes_ahead ctMWork_goes_ahead : Value}
    (aMWork_goes_ahead : PySem.W.findIn K (.ref C_Work) "goes_ahead" = some (some (.ref fMWork_goes_ahead)))
    (iMWork_goes_ahead : PySem.W.isFn K (.ref fMWork_goes_ahead) = true)
    (lMWork_goes_ahead : K.lookup fMWork_goes_ahead = some ⟨ocMWork_goes_ahead, odMWork_goes_ahead, .func (PySem.W.fnOf "goes_ahead" "Work.goes_ahead" (defArgs (inClass (topS 12) 2)) (defBody (inClass (topS 12) 2)) (defScope (inClass (topS 12) 2)) .none kVMWork_goes_ahead dcMWork_goes_ahead pmMWork_goes_ahead anMWork_goes_ahead cdMWork_goes_ahead ctMWork_goes_ahead), slMWork_goes_ahead⟩)
    (cMWork_goes_ahead : PySem.W.codeIn K cdMWork_goes_ahead "Work.goes_ahead" = true)
    (kMWork_goes_ahead : PySem.W.keepIn K (.ref fMWork_goes_ahead) = true)
    (n_Work_name : PySem.W.findIn K (.ref C_Work) "name" = some none)
    (n_Work_house : PySem.W.findIn K (.ref C_Work) "house" = some none)
    (n_Work_ready : PySem.W.findIn K (.ref C_Work) "ready" = some none)
    (n_Work_group : PySem.W.findIn K (.ref C_Work) "group" = some none)
    (n_Work_place : PySem.W.findIn K (.ref C_Work) "place" = some none)
    {C_Loose : Addr}
    (aC_Loose : PySem.W.nsIn K mainGlobals "Loose" = some (some (.ref C_Loose)))
    (ha_Loose : PySem.W.findIn K (.ref C_Loose) "__class__" = some (some (.builtin "object.__class__")))
    (hm_Loose : PySem.W.mroIn K C_Loose (.type "object") = some true)
    (hd_Loose : PySem.W.hasDictIn K C_Loose = true)
    (kc_Loose : PySem.W.keepIn K (.ref C_Loose) = true)
    (pg_Loose : PySem.W.plainGet K C_Loose Str.empty = true)
    (po_Loose : PySem.W.plainOver K C_Loose = true)
    (sa_Loose : PySem.W.findIn K (.ref C_Loose) "__setattr__" = some (some (.builtin "object.__setattr__")))
    (mk_Loose : PySem.W.makesIn K C_Loose = true)
    {fILoose : Addr} {odILoose anILoose : Option Addr} {slILoose : Array (Option Value)} {ocILoose kVILoose dcILoose pmILoose cdILoose ctILoose : Value}
    (aILoose : PySem.W.findIn K (.ref C_Loose) "__init__" = some (some (.ref fILoose)))
    (iILoose : PySem.W.isFn K (.ref fILoose) = true)
    (lILoose : K.lookup fILoose = some ⟨ocILoose, odILoose, .func (PySem.W.fnOf "__init__" "Work.__init__" (defArgs (inClass (topS 12) 0)) (defBody (inClass (topS 12) 0)) (defScope (inClass (topS 12) 0)) .none kVILoose dcILoose pmILoose anILoose cdILoose ctILoose), slILoose⟩)
    (cILoose : PySem.W.codeIn K cdILoose "Work.__init__" = true)
    (kILoose : PySem.W.keepIn K (.ref fILoose) = true)
    {fMLoose_told : Addr} {odMLoose_told anMLoose_told : Option Addr} {slMLoose_told : Array (Option Value)} {ocMLoose_told kVMLoose_told dcMLoose_told pmMLoose_told cdMLoose_told ctMLoose_told : Value}
    (aMLoose_told : PySem.W.findIn K (.ref C_Loose) "told" = some (some (.ref fMLoose_told)))
    (iMLoose_told : PySem.W.isFn K (.ref fMLoose_told) = true)
    (lMLoose_told : K.lookup fMLoose_told = some ⟨ocMLoose_told, odMLoose_told, .func (PySem.W.fnOf "told" "Work.told" (defArgs (inClass (topS 12) 1)) (defBody (inClass (topS 12) 1)) (defScope (inClass (topS 12) 1)) .none kVMLoose_told dcMLoose_told pmMLoose_told anMLoose_told cdMLoose_told ctMLoose_told), slMLoose_told⟩)
    (cMLoose_told : PySem.W.codeIn K cdMLoose_told "Work.told" = true)
    (kMLoose_told : PySem.W.keepIn K (.ref fMLoose_told) = true)
    {fMLoose_goes_ahead : Addr} {odMLoose_goes_ahead anMLoose_goes_ahead : Option Addr} {slMLoose_goes_ahead : Array (Option Value)} {ocMLoose_goes_ahead kVMLoose_goes_ahead dcMLoose_goes_ahead pmMLoose_goes_ahead cdMLoose_goes_ahead ctMLoose_goes_ahead : Value}
    (aMLoose_goes_ahead : PySem.W.findIn K (.ref C_Loose) "goes_ahead" = some (some (.ref fMLoose_goes_ahead)))
    (iMLoose_goes_ahead : PySem.W.isFn K (.ref fMLoose_goes_ahead) = true)
    (lMLoose_goes_ahead : K.lookup fMLoose_goes_ahead = some ⟨ocMLoose_goes_ahead, odMLoose_goes_ahead, .func (PySem.W.fnOf "goes_ahead" "Work.goes_ahead" (defArgs (inClass (topS 12) 2)) (defBody (inClass (topS 12) 2)) (defScope (inClass (topS 12) 2)) .none kVMLoose_goes_ahead dcMLoose_goes_ahead pmMLoose_goes_ahead anMLoose_goes_ahead cdMLoose_goes_ahead ctMLoose_goes_ahead), slMLoose_goes_ahead⟩)
    (cMLoose_goes_ahead : PySem.W.codeIn K cdMLoose_goes_ahead "Work.goes_ahead" = true)
    (kMLoose_goes_ahead : PySem.W.keepIn K (.ref fMLoose_goes_ahead) = true)
    (n_Loose_name : PySem.W.findIn K (.ref C_Loose) "name" = some none)
    (n_Loose_house : PySem.W.findIn K (.ref C_Loose) "house" = some none)
    (n_Loose_ready : PySem.W.findIn K (.ref C_Loose) "ready" = some none)
    (n_Loose_group : PySem.W.findIn K (.ref C_Loose) "group" = some none)
    (n_Loose_place : PySem.W.findIn K (.ref C_Loose) "place" = some none)
    {C_Grouped : Addr}
    (aC_Grouped : PySem.W.nsIn K mainGlobals "Grouped" = some (some (.ref C_Grouped)))
    (ha_Grouped : PySem.W.findIn K (.ref C_Grouped) "__class__" = some (some (.builtin "object.__class__")))
    (hm_Grouped : PySem.W.mroIn K C_Grouped (.type "object") = some true)
    (hd_Grouped : PySem.W.hasDictIn K C_Grouped = true)
    (kc_Grouped : PySem.W.keepIn K (.ref C_Grouped) = true)
    (pg_Grouped : PySem.W.plainGet K C_Grouped Str.empty = true)
    (po_Grouped : PySem.W.plainOver K C_Grouped = true)
    (sa_Grouped : PySem.W.findIn K (.ref C_Grouped) "__setattr__" = some (some (.builtin "object.__setattr__")))
    (mk_Grouped : PySem.W.makesIn K C_Grouped = true)
    {fIGrouped : Addr} {odIGrouped anIGrouped : Option Addr} {slIGrouped : Array (Option Value)} {ocIGrouped kVIGrouped dcIGrouped pmIGrouped cdIGrouped ctIGrouped : Value}
    (aIGrouped : PySem.W.findIn K (.ref C_Grouped) "__init__" = some (some (.ref fIGrouped)))
    (iIGrouped : PySem.W.isFn K (.ref fIGrouped) = true)
    (lIGrouped : K.lookup fIGrouped = some ⟨ocIGrouped, odIGrouped, .func (PySem.W.fnOf "__init__" "Work.__init__" (defArgs (inClass (topS 12) 0)) (defBody (inClass (topS 12) 0)) (defScope (inClass (topS 12) 0)) .none kVIGrouped dcIGrouped pmIGrouped anIGrouped cdIGrouped ctIGrouped), slIGrouped⟩)
    (cIGrouped : PySem.W.codeIn K cdIGrouped "Work.__init__" = true)
    (kIGrouped : PySem.W.keepIn K (.ref fIGrouped) = true)
    {fMGrouped_goes_ahead : Addr} {odMGrouped_goes_ahead anMGrouped_goes_ahead : Option Addr} {slMGrouped_goes_ahead : Array (Option Value)} {ocMGrouped_goes_ahead kVMGrouped_goes_ahead dcMGrouped_goes_ahead pmMGrouped_goes_ahead cdMGrouped_goes_ahead ctMGrouped_goes_ahead : Value}
    (aMGrouped_goes_ahead : PySem.W.findIn K (.ref C_Grouped) "goes_ahead" = some (some (.ref fMGrouped_goes_ahead)))
    (iMGrouped_goes_ahead : PySem.W.isFn K (.ref fMGrouped_goes_ahead) = true)
    (lMGrouped_goes_ahead : K.lookup fMGrouped_goes_ahead = some ⟨ocMGrouped_goes_ahead, odMGrouped_goes_ahead, .func (PySem.W.fnOf "goes_ahead" "Grouped.goes_ahead" (defArgs (inClass (topS 14) 0)) (defBody (inClass (topS 14) 0)) (defScope (inClass (topS 14) 0)) .none kVMGrouped_goes_ahead dcMGrouped_goes_ahead pmMGrouped_goes_ahead anMGrouped_goes_ahead cdMGrouped_goes_ahead ctMGrouped_goes_ahead), slMGrouped_goes_ahead⟩)
    (cMGrouped_goes_ahead : PySem.W.codeIn K cdMGrouped_goes_ahead "Grouped.goes_ahead" = true)
    (kMGrouped_goes_ahead : PySem.W.keepIn K (.ref fMGrouped_goes_ahead) = true)
    {fMGrouped_told : Addr} {odMGrouped_told anMGrouped_told : Option Addr} {slMGrouped_told : Array (Option Value)} {ocMGrouped_told kVMGrouped_told dcMGrouped_told pmMGrouped_told cdMGrouped_told ctMGrouped_told : Value}
    (aMGrouped_told : PySem.W.findIn K (.ref C_Grouped) "told" = some (some (.ref fMGrouped_told)))
    (iMGrouped_told : PySem.W.isFn K (.ref fMGrouped_told) = true)
    (lMGrouped_told : K.lookup fMGrouped_told = some ⟨ocMGrouped_told, odMGrouped_told, .func (PySem.W.fnOf "told" "Work.told" (defArgs (inClass (topS 12) 1)) (defBody (inClass (topS 12) 1)) (defScope (inClass (topS 12) 1)) .none kVMGrouped_told dcMGrouped_told pmMGrouped_told anMGrouped_told cdMGrouped_told ctMGrouped_told), slMGrouped_told⟩)
    (cMGrouped_told : PySem.W.codeIn K cdMGrouped_told "Work.told" = true)
    (kMGrouped_told : PySem.W.keepIn K (.ref fMGrouped_told) = true)
    (n_Grouped_name : PySem.W.findIn K (.ref C_Grouped) "name" = some none)
    (n_Grouped_house : PySem.W.findIn K (.ref C_Grouped) "house" = some none)
    (n_Grouped_ready : PySem.W.findIn K (.ref C_Grouped) "ready" = some none)
    (n_Grouped_group : PySem.W.findIn K (.ref C_Grouped) "group" = some none)
    (n_Grouped_place : PySem.W.findIn K (.ref C_Grouped) "place" = some none)
    (s_Loose_Work : PySem.W.kitOne K (.ref C_Loose) (.ref C_Work) = some true)
    (s_Loose_Loose : PySem.W.kitOne K (.ref C_Loose) (.ref C_Loose) = some true)
    (s_Loose_Grouped : PySem.W.kitOne K (.ref C_Loose) (.ref C_Grouped) = some false)
    (s_Grouped_Work : PySem.W.kitOne K (.ref C_Grouped) (.ref C_Work) = some true)
    (s_Grouped_Loose : PySem.W.kitOne K (.ref C_Grouped) (.ref C_Loose) = some false)
    (s_Grouped_Grouped : PySem.W.kitOne K (.ref C_Grouped) (.ref C_Grouped) = some true)
    (z_all : PySem.W.nsIn K mainGlobals "all" = some none)
    (z_isinstance : PySem.W.nsIn K mainGlobals "isinstance" = some none)
    (z_str : PySem.W.nsIn K mainGlobals "str" = some none)
    (z_len : PySem.W.nsIn K mainGlobals "len" = some none)
    (z_int : PySem.W.nsIn K mainGlobals "int" = some none)
    (z_bool : PySem.W.nsIn K mainGlobals "bool" = some none)
    (z_tuple : PySem.W.nsIn K mainGlobals "tuple" = some none)
    (z_range : PySem.W.nsIn K mainGlobals "range" = some none)
    (z_min : PySem.W.nsIn K mainGlobals "min" = some none)
    {tk_MOST_LETTERS : Tok} (c_MOST_LETTERS : PySem.W.nsIn K mainGlobals "MOST_LETTERS" = some (some (.int 8 tk_MOST_LETTERS)))
    {tk_LETTERS : Tok} (c_LETTERS : PySem.W.nsIn K mainGlobals "LETTERS" = some (some (.str "abcdefghijklmnopqrstuvwxyz" tk_LETTERS)))
    {tk_MOST_MOMENT : Tok} (c_MOST_MOMENT : PySem.W.nsIn K mainGlobals "MOST_MOMENT" = some (some (.int 1000000000000 tk_MOST_MOMENT)))
    {tk_MOST_PLACE : Tok} (c_MOST_PLACE : PySem.W.nsIn K mainGlobals "MOST_PLACE" = some (some (.int 1000000000 tk_MOST_PLACE))) :
    ∃ fd : FuncData, (∀ (s : Shared) (v : Value), BindsTo s fd ⟨[v], []⟩ [("_law_script", v)]) ∧ ∀ base : Heap, K.In base → base.Ns mainGlobals mg → FnOk l.prog w K mg base CX0 5 fa fd ["_law_script"] (sp_law K) := by
  have e := hfa.symm.trans (PySem.W.mg_of X G a15)
  cases e
  have T : Txt K mg ⟨C_LentError, C_NoWork, C_Work, C_Loose, C_Grouped⟩ := { x_LentError := ⟨PySem.W.mg_of X G aC_LentError, xx_LentError, kc_LentError, xb_LentError, xt_LentError, hd_LentError, xv_LentError, ⟨xg_LentError, xh_LentError, xb_LentError, hd_LentError, ha_LentError, hn0, ht0, hm_LentError⟩⟩, x_NoWork := ⟨PySem.W.mg_of X G aC_NoWork, xx_NoWork, kc_NoWork, xb_NoWork, xt_NoWork, hd_NoWork, xv_NoWork, ⟨xg_NoWork, xh_NoWork, xb_NoWork, hd_NoWork, ha_NoWork, hn0, ht0, hm_NoWork⟩⟩, o_Work := ⟨PySem.W.mg_of X G aC_Work, ⟨pg_Work, hd_Work, po_Work, sa_Work⟩, ha_Work, hn0, ht0, hm_Work⟩, i_Work := ⟨PySem.W.mg_of X G aC_Work, _, _, ⟨mk_Work, aIWork, iIWork, kc_Work⟩, fun_mk (st := inClass (topS 12) 0) lIWork cIWork kIWork, (fun_mk (st := inClass (topS 12) 0) lIWork cIWork kIWork).binds (ps := ["self", "name", "house", "ready", "group", "place"]) fun _ _ _ _ _ _ us hl => match us, hl with | [_, _, _, _, _, _], _ => rfl⟩, m_Work_told := ⟨_, _, ⟨aMWork_told, iMWork_told, kMWork_told⟩, fun_mk (st := inClass (topS 12) 1) lMWork_told cMWork_told kMWork_told, (fun_mk (st := inClass (topS 12) 1) lMWork_told cMWork_told kMWork_told).binds (ps := ["self"]) fun _ _ _ _ _ _ us hl => match us, hl with | [_], _ => rfl⟩, m_Work_goes_ahead := ⟨_, _, ⟨aMWork_goes_ahead, iMWork_goes_ahead, kMWork_goes_ahead⟩, fun_mk (st := inClass (topS 12) 2) lMWork_goes_ahead cMWork_goes_ahead kMWork_goes_ahead, (fun_mk (st := inClass (topS 12) 2) lMWork_goes_ahead cMWork_goes_ahead kMWork_goes_ahead).binds (ps := ["self", "other"]) fun _ _ _ _ _ _ us hl => match us, hl with | [_, _], _ => rfl⟩, n_Work_name := n_Work_name, n_Work_house := n_Work_house, n_Work_ready := n_Work_ready, n_Work_group := n_Work_group, n_Work_place := n_Work_place, o_Loose := ⟨PySem.W.mg_of X G aC_Loose, ⟨pg_Loose, hd_Loose, po_Loose, sa_Loose⟩, ha_Loose, hn0, ht0, hm_Loose⟩, i_Loose := ⟨PySem.W.mg_of X G aC_Loose, _, _, ⟨mk_Loose, aILoose, iILoose, kc_Loose⟩, fun_mk (st := inClass (topS 12) 0) lILoose cILoose kILoose, (fun_mk (st := inClass (topS 12) 0) lILoose cILoose kILoose).binds (ps := ["self", "name", "house", "ready", "group", "place"]) fun _ _ _ _ _ _ us hl => match us, hl with | [_, _, _, _, _, _], _ => rfl⟩, m_Loose_told := ⟨_, _, ⟨aMLoose_told, iMLoose_told, kMLoose_told⟩, fun_mk (st := inClass (topS 12) 1) lMLoose_told cMLoose_told kMLoose_told, (fun_mk (st := inClass (topS 12) 1) lMLoose_told cMLoose_told kMLoose_told).binds (ps := ["self"]) fun _ _ _ _ _ _ us hl => match us, hl with | [_], _ => rfl⟩, m_Loose_goes_ahead := ⟨_, _, ⟨aMLoose_goes_ahead, iMLoose_goes_ahead, kMLoose_goes_ahead⟩, fun_mk (st := inClass (topS 12) 2) lMLoose_goes_ahead cMLoose_goes_ahead kMLoose_goes_ahead, (fun_mk (st := inClass (topS 12) 2) lMLoose_goes_ahead cMLoose_goes_ahead kMLoose_goes_ahead).binds (ps := ["self", "other"]) fun _ _ _ _ _ _ us hl => match us, hl with | [_, _], _ => rfl⟩, n_Loose_name := n_Loose_name, n_Loose_house := n_Loose_house, n_Loose_ready := n_Loose_ready, n_Loose_group := n_Loose_group, n_Loose_place := n_Loose_place, o_Grouped := ⟨PySem.W.mg_of X G aC_Grouped, ⟨pg_Grouped, hd_Grouped, po_Grouped, sa_Grouped⟩, ha_Grouped, hn0, ht0, hm_Grouped⟩, i_Grouped := ⟨PySem.W.mg_of X G aC_Grouped, _, _, ⟨mk_Grouped, aIGrouped, iIGrouped, kc_Grouped⟩, fun_mk (st := inClass (topS 12) 0) lIGrouped cIGrouped kIGrouped, (fun_mk (st := inClass (topS 12) 0) lIGrouped cIGrouped kIGrouped).binds (ps := ["self", "name", "house", "ready", "group", "place"]) fun _ _ _ _ _ _ us hl => match us, hl with | [_, _, _, _, _, _], _ => rfl⟩, m_Grouped_goes_ahead := ⟨_, _, ⟨aMGrouped_goes_ahead, iMGrouped_goes_ahead, kMGrouped_goes_ahead⟩, fun_mk (st := inClass (topS 14) 0) lMGrouped_goes_ahead cMGrouped_goes_ahead kMGrouped_goes_ahead, (fun_mk (st := inClass (topS 14) 0) lMGrouped_goes_ahead cMGrouped_goes_ahead kMGrouped_goes_ahead).binds (ps := ["self", "other"]) fun _ _ _ _ _ _ us hl => match us, hl with | [_, _], _ => rfl⟩, m_Grouped_told := ⟨_, _, ⟨aMGrouped_told, iMGrouped_told, kMGrouped_told⟩, fun_mk (st := inClass (topS 12) 1) lMGrouped_told cMGrouped_told kMGrouped_told, (fun_mk (st := inClass (topS 12) 1) lMGrouped_told cMGrouped_told kMGrouped_told).binds (ps := ["self"]) fun _ _ _ _ _ _ us hl => match us, hl with | [_], _ => rfl⟩, n_Grouped_name := n_Grouped_name, n_Grouped_house := n_Grouped_house, n_Grouped_ready := n_Grouped_ready, n_Grouped_group := n_Grouped_group, n_Grouped_place := n_Grouped_place, s_Loose_Work := s_Loose_Work, s_Loose_Loose := s_Loose_Loose, s_Loose_Grouped := s_Loose_Grouped, s_Grouped_Work := s_Grouped_Work, s_Grouped_Loose := s_Grouped_Loose, s_Grouped_Grouped := s_Grouped_Grouped, m_all := PySem.W.mg_none_of X G z_all, m_isinstance := PySem.W.mg_none_of X G z_isinstance, m_str := PySem.W.mg_none_of X G z_str, m_len := PySem.W.mg_none_of X G z_len, m_int := PySem.W.mg_none_of X G z_int, m_bool := PySem.W.mg_none_of X G z_bool, m_tuple := PySem.W.mg_none_of X G z_tuple, m_range := PySem.W.mg_none_of X G z_range, m_min := PySem.W.mg_none_of X G z_min, g_MOST_LETTERS := ⟨_, PySem.W.mg_of X G c_MOST_LETTERS, ⟨_, rfl⟩⟩, g_LETTERS := ⟨_, PySem.W.mg_of X G c_LETTERS, ⟨_, rfl⟩⟩, g_MOST_MOMENT := ⟨_, PySem.W.mg_of X G c_MOST_MOMENT, ⟨_, rfl⟩⟩, g_MOST_PLACE := ⟨_, PySem.W.mg_of X G c_MOST_PLACE, ⟨_, rfl⟩⟩, f_is_name := ⟨_, _, PySem.W.mg_of X G a1, fun_mk (st := topS 7) l1 c1 k1, (fun_mk (st := topS 7) l1 c1 k1).binds (ps := ["thing"]) fun _ _ _ _ _ _ us hl => match us, hl with | [_], _ => rfl⟩, f_is_whole := ⟨_, _, PySem.W.mg_of X G a2, fun_mk (st := topS 8) l2 c2 k2, (fun_mk (st := topS 8) l2 c2 k2).binds (ps := ["thing", "low", "high"]) fun _ _ _ _ _ _ us hl => match us, hl with | [_, _, _], _ => rfl⟩, f_is_moment := ⟨_, _, PySem.W.mg_of X G a3, fun_mk (st := topS 9) l3 c3 k3, (fun_mk (st := topS 9) l3 c3 k3).binds (ps := ["thing"]) fun _ _ _ _ _ _ us hl => match us, hl with | [_], _ => rfl⟩, f_is_work := ⟨_, _, PySem.W.mg_of X G a4, fun_mk (st := topS 15) l4 c4 k4, (fun_mk (st := topS 15) l4 c4 k4).binds (ps := ["told"]) fun _ _ _ _ _ _ us hl => match us, hl with | [_], _ => rfl⟩, f_work_of := ⟨_, _, PySem.W.mg_of X G a5, fun_mk (st := topS 16) l5 c5 k5, (fun_mk (st := topS 16) l5 c5 k5).binds (ps := ["told"]) fun _ _ _ _ _ _ us hl => match us, hl with | [_], _ => rfl⟩, f__law_cell_at := ⟨_, _, PySem.W.mg_of X G a6, fun_mk (st := topS 18) l6 c6 k6, (fun_mk (st := topS 18) l6 c6 k6).binds (ps := ["_law_script", "_law_k"]) fun _ _ _ _ _ _ us hl => match us, hl with | [_, _], _ => rfl⟩, f__law_state := ⟨_, _, PySem.W.mg_of X G a7, fun_mk (st := topS 19) l7 c7 k7, (fun_mk (st := topS 19) l7 c7 k7).binds (ps := ["_law_cell", "_law_k"]) fun _ _ _ _ _ _ us hl => match us, hl with | [_, _], _ => rfl⟩, f__law_mixed := ⟨_, _, PySem.W.mg_of X G a8, fun_mk (st := topS 20) l8 c8 k8, (fun_mk (st := topS 20) l8 c8 k8).binds (ps := ["_law_number"]) fun _ _ _ _ _ _ us hl => match us, hl with | [_], _ => rfl⟩, f__law_digit := ⟨_, _, PySem.W.mg_of X G a9, fun_mk (st := topS 21) l9 c9 k9, (fun_mk (st := topS 21) l9 c9 k9).binds (ps := ["_law_state_here", "_law_base"]) fun _ _ _ _ _ _ us hl => match us, hl with | [_, _], _ => rfl⟩, f__law_name := ⟨_, _, PySem.W.mg_of X G a10, fun_mk (st := topS 22) l10 c10 k10, (fun_mk (st := topS 22) l10 c10 k10).binds (ps := ["_law_state_here"]) fun _ _ _ _ _ _ us hl => match us, hl with | [_], _ => rfl⟩, f__law_told := ⟨_, _, PySem.W.mg_of X G a11, fun_mk (st := topS 23) l11 c11 k11, (fun_mk (st := topS 23) l11 c11 k11).binds (ps := ["_law_state_here", "_law_groups", "_law_known"]) fun _ _ _ _ _ _ us hl => match us, hl with | [_, _, _], _ => rfl⟩, f__law_due := ⟨_, _, PySem.W.mg_of X G a12, fun_mk (st := topS 24) l12 c12 k12, (fun_mk (st := topS 24) l12 c12 k12).binds (ps := ["_law_one", "_law_other"]) fun _ _ _ _ _ _ us hl => match us, hl with | [_, _], _ => rfl⟩, f__law_pairs_right := ⟨_, _, PySem.W.mg_of X G a13, fun_mk (st := topS 25) l13 c13 k13, (fun_mk (st := topS 25) l13 c13 k13).binds (ps := ["_law_works", "_law_others", "_law_rows", "_law_at"]) fun _ _ _ _ _ _ us hl => match us, hl with | [_, _, _, _], _ => rfl⟩, f__law_by_itself := ⟨_, _, PySem.W.mg_of X G a14, fun_mk (st := topS 26) l14 c14 k14, (fun_mk (st := topS 26) l14 c14 k14).binds (ps := ["_law_told_here"]) fun _ _ _ _ _ _ us hl => match us, hl with | [_], _ => rfl⟩ }
  exact ⟨PySem.W.fnOf "law" "law" (defArgs s_law) (defBody s_law) (defScope s_law) .none kV15 dc15 pm15 an15 cd15 ct15, fun s v => .of_eq rfl, fun base _ _ => ok_law (fun_mk (st := s_law) l15 c15 k15) T⟩
end W
open PySem PySem.W PyProof.Rows
set_option maxRecDepth 100000 in
set_option maxHeartbeats 0 in
theorem PySem.Challenge.cw_rowlent_k04_who_goes_ahead_holds : PySem.Challenge.rw_rowlent_k04_who_goes_ahead.Holds := by
  w_on; o_law; k_head; (case hw => w_witness2)
  k_fill
  refine L2.walk_ofK (l := PySem.Challenge.rw_rowlent_k04_who_goes_ahead) (n := 63) (k := 5) (x := "_law_script") (CX := L2.CX0) (sp := W.sp_law) rfl (by decide) rfl ⟨rfl, by decide, by decide⟩ (fun w h Y => PySem.W.kIn_of Y) ?F (fun _ _ a ns hl hO hS => ⟨ns, ⟨a, rfl, hS, hl⟩, R.wf_only hO, fun _ => rfl⟩) (fun _ _ _ _ h => h)
  case F =>
    intro w mg fa h KX G hmg
    refine' W.all_mk KX G hmg ?a1 ?l1 ?c1 ?k1 ?a2 ?l2 ?c2 ?k2 ?a3 ?l3 ?c3 ?k3 ?a4 ?l4 ?c4 ?k4 ?a5 ?l5 ?c5 ?k5 ?a6 ?l6 ?c6 ?k6 ?a7 ?l7 ?c7 ?k7 ?a8 ?l8 ?c8 ?k8 ?a9 ?l9 ?c9 ?k9 ?a10 ?l10 ?c10 ?k10 ?a11 ?l11 ?c11 ?k11 ?a12 ?l12 ?c12 ?k12 ?a13 ?l13 ?c13 ?k13 ?a14 ?l14 ?c14 ?k14 ?a15 ?l15 ?c15 ?k15 ?hn0 ?ht0 ?aC_LentError ?ha_LentError ?hm_LentError ?hd_LentError ?kc_LentError ?xx_LentError ?xb_LentError ?xt_LentError ?xv_LentError ?xg_LentError ?xh_LentError ?aC_NoWork ?ha_NoWork ?hm_NoWork ?hd_NoWork ?kc_NoWork ?xx_NoWork ?xb_NoWork ?xt_NoWork ?xv_NoWork ?xg_NoWork ?xh_NoWork ?aC_Work ?ha_Work ?hm_Work ?hd_Work ?kc_Work ?pg_Work ?po_Work ?sa_Work ?mk_Work ?aIWork ?iIWork ?lIWork ?cIWork ?kIWork ?aMWork_told ?iMWork_told ?lMWork_told ?cMWork_told ?kMWork_told ?aMWork_goes_ahead ?iMWork_goes_ahead ?lMWork_goes_ahead ?cMWork_goes_ahead ?kMWork_goes_ahead ?n_Work_name ?n_Work_house ?n_Work_ready ?n_Work_group ?n_Work_place ?aC_Loose ?ha_Loose ?hm_Loose ?hd_Loose ?kc_Loose ?pg_Loose ?po_Loose ?sa_Loose ?mk_Loose ?aILoose ?iILoose ?lILoose ?cILoose ?kILoose ?aMLoose_told ?iMLoose_told ?lMLoose_told ?cMLoose_told ?kMLoose_told ?aMLoose_goes_ahead ?iMLoose_goes_ahead ?lMLoose_goes_ahead ?cMLoose_goes_ahead ?kMLoose_goes_ahead ?n_Loose_name ?n_Loose_house ?n_Loose_ready ?n_Loose_group ?n_Loose_place ?aC_Grouped ?ha_Grouped ?hm_Grouped ?hd_Grouped ?kc_Grouped ?pg_Grouped ?po_Grouped ?sa_Grouped ?mk_Grouped ?aIGrouped ?iIGrouped ?lIGrouped ?cIGrouped ?kIGrouped ?aMGrouped_goes_ahead ?iMGrouped_goes_ahead ?lMGrouped_goes_ahead ?cMGrouped_goes_ahead ?kMGrouped_goes_ahead ?aMGrouped_told ?iMGrouped_told ?lMGrouped_told ?cMGrouped_told ?kMGrouped_told ?n_Grouped_name ?n_Grouped_house ?n_Grouped_ready ?n_Grouped_group ?n_Grouped_place ?s_Loose_Work ?s_Loose_Loose ?s_Loose_Grouped ?s_Grouped_Work ?s_Grouped_Loose ?s_Grouped_Grouped ?z_all ?z_isinstance ?z_str ?z_len ?z_int ?z_bool ?z_tuple ?z_range ?z_min ?c_MOST_LETTERS ?c_LETTERS ?c_MOST_MOMENT ?c_MOST_PLACE
    (case a1 => k_is)
    (case l1 => k_is)
    (case c1 => k_is)
    (case k1 => k_is)
    (case a2 => k_is)
    (case l2 => k_is)
    (case c2 => k_is)
    (case k2 => k_is)
    (case a3 => k_is)
    (case l3 => k_is)
    (case c3 => k_is)
    (case k3 => k_is)
    (case a4 => k_is)
    (case l4 => k_is)
    (case c4 => k_is)
    (case k4 => k_is)
    (case a5 => k_is)
    (case l5 => k_is)
    (case c5 => k_is)
    (case k5 => k_is)
    (case a6 => k_is)
    (case l6 => k_is)
    (case c6 => k_is)
    (case k6 => k_is)
    (case a7 => k_is)
    (case l7 => k_is)
    (case c7 => k_is)
    (case k7 => k_is)
    (case a8 => k_is)
    (case l8 => k_is)
    (case c8 => k_is)
    (case k8 => k_is)
    (case a9 => k_is)
    (case l9 => k_is)
    (case c9 => k_is)
    (case k9 => k_is)
    (case a10 => k_is)
    (case l10 => k_is)
    (case c10 => k_is)
    (case k10 => k_is)
    (case a11 => k_is)
    (case l11 => k_is)
    (case c11 => k_is)
    (case k11 => k_is)
    (case a12 => k_is)
    (case l12 => k_is)
    (case c12 => k_is)
    (case k12 => k_is)
    (case a13 => k_is)
    (case l13 => k_is)
    (case c13 => k_is)
    (case k13 => k_is)
    (case a14 => k_is)
    (case l14 => k_is)
    (case c14 => k_is)
    (case k14 => k_is)
    (case a15 => k_is)
    (case l15 => k_is)
    (case c15 => k_is)
    (case k15 => k_is)
    (case hn0 => k_is)
    (case ht0 => k_is)
    (case aC_LentError => k_is)
    (case ha_LentError => k_is)
    (case hm_LentError => k_is)
    (case hd_LentError => k_is)
    (case kc_LentError => k_is)
    (case xx_LentError => k_exc)
    (case xb_LentError => k_is)
    (case xt_LentError => k_is)
    (case xv_LentError => k_is)
    (case xg_LentError => k_is)
    (case xh_LentError => k_is)
    (case aC_NoWork => k_is)
    (case ha_NoWork => k_is)
    (case hm_NoWork => k_is)
    (case hd_NoWork => k_is)
    (case kc_NoWork => k_is)
    (case xx_NoWork => k_exc)
    (case xb_NoWork => k_is)
    (case xt_NoWork => k_is)
    (case xv_NoWork => k_is)
    (case xg_NoWork => k_is)
    (case xh_NoWork => k_is)
    (case aC_Work => k_is)
    (case ha_Work => k_is)
    (case hm_Work => k_is)
    (case hd_Work => k_is)
    (case kc_Work => k_is)
    (case pg_Work => k_is)
    (case po_Work => k_is)
    (case sa_Work => k_is)
    (case mk_Work => k_is)
    (case aIWork => k_is)
    (case iIWork => k_is)
    (case lIWork => k_is)
    (case cIWork => k_is)
    (case kIWork => k_is)
    (case aMWork_told => k_is)
    (case iMWork_told => k_is)
    (case lMWork_told => k_is)
    (case cMWork_told => k_is)
    (case kMWork_told => k_is)
    (case aMWork_goes_ahead => k_is)
    (case iMWork_goes_ahead => k_is)
    (case lMWork_goes_ahead => k_is)
    (case cMWork_goes_ahead => k_is)
    (case kMWork_goes_ahead => k_is)
    (case n_Work_name => k_is)
    (case n_Work_house => k_is)
    (case n_Work_ready => k_is)
    (case n_Work_group => k_is)
    (case n_Work_place => k_is)
    (case aC_Loose => k_is)
    (case ha_Loose => k_is)
    (case hm_Loose => k_is)
    (case hd_Loose => k_is)
    (case kc_Loose => k_is)
    (case pg_Loose => k_is)
    (case po_Loose => k_is)
    (case sa_Loose => k_is)
    (case mk_Loose => k_is)
    (case aILoose => k_is)
    (case iILoose => k_is)
    (case lILoose => k_is)
    (case cILoose => k_is)
    (case kILoose => k_is)
    (case aMLoose_told => k_is)
    (case iMLoose_told => k_is)
    (case lMLoose_told => k_is)
    (case cMLoose_told => k_is)
    (case kMLoose_told => k_is)
    (case aMLoose_goes_ahead => k_is)
    (case iMLoose_goes_ahead => k_is)
    (case lMLoose_goes_ahead => k_is)
    (case cMLoose_goes_ahead => k_is)
    (case kMLoose_goes_ahead => k_is)
    (case n_Loose_name => k_is)
    (case n_Loose_house => k_is)
    (case n_Loose_ready => k_is)
    (case n_Loose_group => k_is)
    (case n_Loose_place => k_is)
    (case aC_Grouped => k_is)
    (case ha_Grouped => k_is)
    (case hm_Grouped => k_is)
    (case hd_Grouped => k_is)
    (case kc_Grouped => k_is)
    (case pg_Grouped => k_is)
    (case po_Grouped => k_is)
    (case sa_Grouped => k_is)
    (case mk_Grouped => k_is)
    (case aIGrouped => k_is)
    (case iIGrouped => k_is)
    (case lIGrouped => k_is)
    (case cIGrouped => k_is)
    (case kIGrouped => k_is)
    (case aMGrouped_goes_ahead => k_is)
    (case iMGrouped_goes_ahead => k_is)
    (case lMGrouped_goes_ahead => k_is)
    (case cMGrouped_goes_ahead => k_is)
    (case kMGrouped_goes_ahead => k_is)
    (case aMGrouped_told => k_is)
    (case iMGrouped_told => k_is)
    (case lMGrouped_told => k_is)
    (case cMGrouped_told => k_is)
    (case kMGrouped_told => k_is)
    (case n_Grouped_name => k_is)
    (case n_Grouped_house => k_is)
    (case n_Grouped_ready => k_is)
    (case n_Grouped_group => k_is)
    (case n_Grouped_place => k_is)
    (case s_Loose_Work => first | rfl | k_is)
    (case s_Loose_Loose => first | rfl | k_is)
    (case s_Loose_Grouped => first | rfl | k_is)
    (case s_Grouped_Work => first | rfl | k_is)
    (case s_Grouped_Loose => first | rfl | k_is)
    (case s_Grouped_Grouped => first | rfl | k_is)
    (case z_all => k_is)
    (case z_isinstance => k_is)
    (case z_str => k_is)
    (case z_len => k_is)
    (case z_int => k_is)
    (case z_bool => k_is)
    (case z_tuple => k_is)
    (case z_range => k_is)
    (case z_min => k_is)
    (case c_MOST_LETTERS => k_is)
    (case c_LETTERS => k_is)
    (case c_MOST_MOMENT => k_is)
    (case c_MOST_PLACE => k_is)
