import PyProof.Rows.All
import Wide.All
import OpenK.AllK
import Wide.FinOn
import HandS.ForMost
import HandS.ForExc
import HandS.IsInst
import HandS.Wide
import HandS.Flow
import HandS.Walk
import HandS.Codes
import PySem.Challenge.RW_rowlent_k01_names_and_moments
set_option Elab.async false
set_option linter.all false
set_option maxRecDepth 100000
set_option maxHeartbeats 4000000

namespace R
open PySem PySem.Spec PyProof.Rows L2
/-! ### heaps that may be cut back to what is wanted -/
def Flat : HO → Prop
  | .dT kvs => kvs = []
  | .ins _ _ _ => False
  | .frz _ u => Flat u
  | _ => True
def Wf (H : Hp) : Prop := ∀ a o, H a = some o → Flat o ∨ ∃ C dx fs, o = .ins C dx fs ∧ H dx = some (.own a)
theorem flat_ok {P : Program} {w : World} {H H2 : Hp} {h : Heap} {a : Addr} {o : HO} (f : Flat o) (x : ObjOk P w H h a o) : ObjOk P w H2 h a o := by
  induction o with
  | dT kvs =>
    have e : kvs = [] := f
    subst e
    obtain ⟨z, y, xs, r, q⟩ := x
    cases r
    exact ⟨z, y, [], .nil, q⟩
  | ins C dx fs => exact f.elim
  | frz ob u ih => exact ⟨x.1, ih f x.2⟩
  | lst xs => exact x
  | tup xs => exact x
  | dK kvs => exact x
  | set S n => exact x
  | own y => exact x
  | xd fs => exact x
  | met g y => exact x
  | rng lo hi => exact x
  | tbl ps => exact x
  | ext φ => exact x
/-- H2: what is kept of H' behind a piece of code that began in H -/
structure Back (H H2 H' : Hp) : Prop where
  sub : ∀ a o, H2 a = some o → H' a = some o
  kp : ∀ a o, H a = some o → H2 a = H' a
  wf : Wf H2
theorem Back.refl {H H' : Hp} (w : Wf H') : Back H H' H' := ⟨fun _ _ h => h, fun _ _ _ => rfl, w⟩
theorem Back.hok {P : Program} {w : World} {H H2 H' : Hp} {h : Heap} (b : Back H H2 H') (x : HOk P w H' h) : HOk P w H2 h := fun a o e => by
  have q := x a o (b.sub a o e)
  rcases b.wf a o e with f | ⟨C, dx, fs, rfl, hd⟩
  · exact flat_ok f q
  · obtain ⟨_, z⟩ := q
    exact ⟨hd, z⟩
theorem Back.un {fs ex : List Addr} {H0 H H2 H' : Hp} {h h' : Heap} (b : Back H H2 H') (u0 : ∀ a o, H0 a = some o → (∀ xs, o = .tup xs → H a = some o) ∧ (∀ z y, o = .frz z y → H a = some o) ∧ (∀ ps, o = .tbl ps → ∃ m, H a = some (.tbl m)))
    (u : Un fs ex H0 H' h h') : Un fs ex H0 H2 h h' where
  keep := u.keep
  slot := u.slot
  there := u.there
  free := fun c ob q n hx => by
    have z := u.free c ob q n hx
    cases e : H2 c with
    | none => rfl
    | some x =>
      have y := b.sub c x e
      rw [z] at y
      cases y
  tups := fun c xs q => by
    have z := (u0 c _ q).1 xs rfl
    rw [b.kp c _ z]
    exact u.tups c xs q
  frzs := fun c ob x q => by
    have z := (u0 c _ q).2.1 ob x rfl
    rw [b.kp c _ z]
    exact u.frzs c ob x q
  tbls := fun c ps q => by
    obtain ⟨m, z⟩ := (u0 c _ q).2.2 ps rfl
    rw [b.kp c _ z]
    exact u.tbls c ps q
theorem Back.un0 {fs ex : List Addr} {H H2 H' : Hp} {h h' : Heap} (b : Back H H2 H') (u : Un fs ex H H' h h') : Un fs ex H H2 h h' :=
  b.un (fun a o e => ⟨fun xs r => e, fun _ _ _ => e, fun ps r => ⟨ps, by rw [e, r]⟩⟩) u
theorem Back.ub {fs : List Addr} {H H2 H' : Hp} {h B h' : Heap} (b : Back H H2 H') (u : UB fs H H' h B h') : UB fs H H2 h B h' where
  keep := u.keep
  slot := u.slot
  there := u.there
  free := fun c ob q n => by
    have z := u.free c ob q n
    cases e : H2 c with
    | none => rfl
    | some x =>
      have y := b.sub c x e
      rw [z] at y
      cases y
  tups := fun c xs q => by
    rw [b.kp c _ q]
    exact u.tups c xs q
  frzs := fun c ob x q => by
    rw [b.kp c _ q]
    exact u.frzs c ob x q
  tbls := fun c ps q => by
    rw [b.kp c _ q]
    exact u.tbls c ps q
def bQ (H : Hp) (Q : VK) : VK := fun v H' => ∃ H2, Back H H2 H' ∧ Q v H2
def bE (H : Hp) (E : XK) : XK := fun c d H' => ∃ H2, Back H H2 H' ∧ E c d H2
theorem bQ.mk {H : Hp} {Q : VK} {v : V} {H' : Hp} (w : Wf H') (q : Q v H') : bQ H Q v H' := ⟨H', Back.refl w, q⟩
section
variable {P : Program} {w : World} {K : PySem.W.Frag} {mg : Str → Option Value} {base : Heap} {k : Nat} {f : Addr} {fd : FuncData} {ps : List Str} {sp : Sp}
theorem ce_back {outer : List Env} {H : Hp} {s s' : Shared} {Q : VK} {u : Value} (h : CE outer P w H s (bQ H Q) u s') : CE outer P w H s Q u s' := by
  obtain ⟨v, H', os, bare, un, hok, r, H2, b, q⟩ := h
  exact ⟨v, H2, os, bare, b.un0 un, b.hok hok, r, q⟩
theorem cx_back {outer : List Env} {H : Hp} {s s' : Shared} {E : XK} {u : Value} (h : L2.CX P w outer H s (bE H E) u s') : L2.CX P w outer H s E u s' := by
  obtain ⟨a, B, H', cls, d, e, fl, hok, ub, na, os, ag, H2, b, q⟩ := h
  refine ⟨a, B, H2, cls, d, e, fl, b.hok hok, b.ub ub, ?_, os, ag, q⟩
  cases z : H2 a with
  | none => rfl
  | some x =>
    have y := b.sub a x z
    rw [na] at y
    cases y
/-- a promise over a heap that is cut back -/
def spB (sp : Sp) : Sp := fun vs H Q' E' => ∃ Q E, Q' = bQ H Q ∧ E' = bE H E ∧ sp vs H Q E
theorem fn_backX (F : FnOk P w K mg base (L2.CX P w) k f fd ps (spB sp)) : FnOk P w K mg base (L2.CX P w) k f fd ps sp := by
  refine ⟨fun vs H Q E q => F.len vs H (bQ H Q) (bE H E) ⟨Q, E, rfl, rfl, q⟩, fun A outer s H args us vs Q E hr he hb hv hs => ?_⟩
  refine codeAny_mono (F.run A outer s H args us vs (bQ H Q) (bE H E) hr he hb hv ⟨Q, E, rfl, rfl, hs⟩) fun r s' hq => ?_
  cases r with
  | error e => exact cx_back hq
  | ok fl =>
    cases fl with
    | ret u => exact ce_back hq
    | next => exact hq
    | brk => exact hq
    | cont => exact hq
theorem fn_back (F : FnOk P w K mg base CX0 k f fd ps (spB sp)) : FnOk P w K mg base CX0 k f fd ps sp := by
  refine ⟨fun vs H Q E q => F.len vs H (bQ H Q) (bE H E) ⟨Q, E, rfl, rfl, q⟩, fun A outer s H args us vs Q E hr he hb hv hs => ?_⟩
  refine codeAny_mono (F.run A outer s H args us vs (bQ H Q) (bE H E) hr he hb hv ⟨Q, E, rfl, rfl, hs⟩) fun r s' hq => ?_
  cases r with
  | error e => exact hq
  | ok fl =>
    cases fl with
    | ret u => exact ce_back hq
    | next => exact hq
    | brk => exact hq
    | cont => exact hq
end
/-- a def that raises nothing, by its body; the heap behind it cut back -/
theorem ok0 {P : Program} {w : World} {K : PySem.W.Frag} {mg : Str → Option Value} {base : Heap} {x qual : Str} {st : Stmt} {f : Addr} {fd : FuncData} {N ps : List Str} {k : Nat} {sp : Sp} (F : Fun K x qual st f fd) (S : FnScope N ps (defScope st)) (len : ∀ vs H Q E, sp vs H Q E → vs.length = ps.length)
    (hbody : ∀ (cdv : Value) (A : Around) (outer : List Env) (s : Shared) (H : Hp) (vs : List V) (Q : VK) (E : XK), Room k (A.deeper (envOfC qual (defScope st) s.heap.objs.size f cdv)) → sp vs H Q E →
      ∃ t, PSs (cxOf CX0 P w K mg base N qual (defScope st) f cdv A outer s H E).nox (defBody st) t ∧ t { nx := fun _ H' => bQ H Q .non H', rt := bQ H Q } (start N vs) H) : FnOk P w K mg base CX0 (k + 1) f fd ps sp := by
  refine fn_back (F.ok S (fun vs H Q E h => ?_) fun cdv A outer s H vs Q' E' hr h => ?_)
  · obtain ⟨Q, E, _, _, q⟩ := h
    exact len vs H Q E q
  · obtain ⟨Q, E, rfl, rfl, q⟩ := h
    exact hbody cdv A outer s H vs Q E hr q
/-- .. that may raise -/
theorem okX {P : Program} {w : World} {K : PySem.W.Frag} {mg : Str → Option Value} {base : Heap} {x qual : Str} {st : Stmt} {f : Addr} {fd : FuncData} {N ps : List Str} {k : Nat} {sp : Sp} (F : Fun K x qual st f fd) (S : FnScope N ps (defScope st)) (len : ∀ vs H Q E, sp vs H Q E → vs.length = ps.length)
    (hbody : ∀ (cdv : Value) (A : Around) (outer : List Env) (s : Shared) (H : Hp) (vs : List V) (Q : VK) (E : XK), Room k (A.deeper (envOfC qual (defScope st) s.heap.objs.size f cdv)) → sp vs H Q E →
      ∃ t, PSs (cxOf (L2.CX P w) P w K mg base N qual (defScope st) f cdv A outer s H (bE H E)) (defBody st) t ∧ t { nx := fun _ H' => bQ H Q .non H', rt := bQ H Q } (start N vs) H) : FnOk P w K mg base (L2.CX P w) (k + 1) f fd ps sp := by
  refine fn_backX (F.okX S (fun vs H Q E h => ?_) fun cdv A outer s H vs Q' E' hr h => ?_)
  · obtain ⟨Q, E, _, _, q⟩ := h
    exact len vs H Q E q
  · obtain ⟨Q, E, rfl, rfl, q⟩ := h
    exact hbody cdv A outer s H vs Q E hr q
section
variable {X : Cx}
/-- the heap behind an expression, a block, cut back -/
def tBack (t : TE) : TE := fun σ H Q => t σ H (bQ H Q)
theorem inv_back {pins : List (Addr × Obj)} {σ : L2.St} {σ0 : L2.St} {H H2 H' : Hp} {s s0 : Shared} (I0 : Inv X pins σ0 H s0) (b : Back H H2 H') (I : Inv X pins σ H' s) : Inv X pins σ H2 s := by
  have fr : ∀ c, H' c = none → H2 c = none := fun c z => by
    cases e : H2 c with
    | none => rfl
    | some x =>
      have y := b.sub c x e
      rw [z] at y
      cases y
  refine ⟨I.ok, I.os, I.bare, b.un (fun a o e => ⟨fun xs r => ?_, fun z y r => ?_, fun ps r => ?_⟩) I.base, I.loc, I.cell, fr _ I.free, fun x c e => fr _ (I.freeC x c e), fun p hp => ?_, b.hok I.hok, I.len⟩
  · subst r
    exact I0.base.tups a xs e
  · subst r
    exact I0.base.frzs a z y e
  · subst r
    obtain ⟨m, h⟩ := I0.base.tbls a ps e
    exact ⟨_, h⟩
  · obtain ⟨a1, a2, a3⟩ := I.pin p hp
    exact ⟨a1, fr _ a2, a3⟩
theorem pe_back {e : Expr} {t : TE} (h : PE X e t) : PE X e (tBack t) := by
  refine ⟨fun pins s σ H Q I q => ?_⟩
  refine thn (h.run pins s σ H _ I q) fun u s1 z => ?_
  obtain ⟨v, H1, I1, r1, H2, b, q2⟩ := z
  exact ⟨v, H2, inv_back I b I1, r1, q2⟩
def bD (H : Hp) (D : Ends) : Ends := { nx := fun σ H' => ∃ H2, Back H H2 H' ∧ D.nx σ H2, rt := bQ H D.rt, bk := fun σ H' => ∃ H2, Back H H2 H' ∧ D.bk σ H2, ct := fun σ H' => ∃ H2, Back H H2 H' ∧ D.ct σ H2 }
def sBack (t : TS) : TS := fun D σ H => t (bD H D) σ H
theorem sp_back {pins : List (Addr × Obj)} {σ : L2.St} {H : Hp} {D : Ends} {s s1 : Shared} {f : Flow} (I : Inv X pins σ H s) (z : SP X pins (bD H D) f s1) : SP X pins D f s1 := by
  cases f with
  | next =>
    obtain ⟨σ', H', I', H2, b, q⟩ := z
    exact ⟨σ', H2, inv_back I b I', q⟩
  | brk =>
    obtain ⟨σ', H', I', H2, b, q⟩ := z
    exact ⟨σ', H2, inv_back I b I', q⟩
  | cont =>
    obtain ⟨σ', H', I', H2, b, q⟩ := z
    exact ⟨σ', H2, inv_back I b I', q⟩
  | ret u =>
    obtain ⟨v, σ', H', I', r, H2, b, q⟩ := z
    exact ⟨v, σ', H2, inv_back I b I', r, q⟩
theorem pss_back {b : List Stmt} {t : TS} (h : PSs X b t) : PSs X b (sBack t) := ⟨fun pins s σ H D I q => thn (h.run pins s σ H _ I q) fun _ _ z => sp_back I z⟩
theorem ps_back {b : Stmt} {t : TS} (h : PS X b t) : PS X b (sBack t) := ⟨fun pins s σ H D I q => thn (h.run pins s σ H _ I q) fun _ _ z => sp_back I z⟩
end
end R
namespace R
open PySem PySem.Spec PyProof.Rows L2
/-! ### readings that reckon: what can be seen is done by whnf, what is left stands as a want -/
theorem imp_e {X : Cx} {e : Expr} {t t' : TE} (h : PE X e t) (i : ∀ σ H Q, t' σ H Q → t σ H Q) : PE X e t' := ⟨fun pins s σ H Q I q => h.run pins s σ H Q I (i σ H Q q)⟩
theorem imp_t {X : Cx} {e : Expr} {t t' : TT} (h : PT X e t) (i : ∀ σ H Q, t' σ H Q → t σ H Q) : PT X e t' := ⟨fun pins s σ H Q I q => h.run pins s σ H Q I (i σ H Q q)⟩
theorem imp_s {X : Cx} {e : Stmt} {t t' : TS} (h : PS X e t) (i : ∀ D σ H, t' D σ H → t D σ H) : PS X e t' := ⟨fun pins s σ H D I q => h.run pins s σ H D I (i D σ H q)⟩
theorem imp_o {X : Cx} {f : Value → Value → Sem Value} {r r' : R2} (h : OpR X f r) (i : ∀ x y H Q, r' x y H Q → r x y H Q) : OpR X f r' := fun pins s σ H x y v u Q I rx ry q => h pins s σ H x y v u Q I rx ry (i x y H Q q)
theorem imp_c {X : Cx} {f : Value} {r r' : List V → Hp → VK → Prop} (h : CallR X f r) (i : ∀ xs H Q, r' xs H Q → r xs H Q) : CallR X f r' := fun pins s σ H xs us Q I rx q => h pins s σ H xs us Q I rx (i xs H Q q)
theorem imp_g {X : Cx} {e : Expr} {t t' : TG} (h : PG X e t) (i : ∀ v σ H Q, t' v σ H Q → t v σ H Q) : PG X e t' := ⟨fun pins s σ H v u Q I r q => h.run pins s σ H v u Q I r (i v σ H Q q)⟩
/-- a name -/
def cVar (i : Nat) : TE := fun σ H Q => match σ[i]? with | some (some v) => Q v H | _ => False
theorem lv {X : Cx} (i : Nat) {x : Str} {pos : Pos} (hN : X.N[i]? = some x := by rfl) (hv : Vis X.env.scope x := by first | exact Or.inl rfl | exact Or.inr (Or.inl rfl) | exact Or.inr (Or.inr rfl)) (hd : (x == ("__debug__" : Str)) = false := by decide)
    (hcd : (x == ("__classdict__" : Str)) = false := by decide) : PE X (.Name x pos) (cVar i) := imp_e (pe_var hN hv hd hcd) fun σ H Q q => by
  unfold cVar at q
  split at q
  · rename_i v e
    exact ⟨v, e, q⟩
  · exact q.elim
/-- a name of the module's top -/
def GlV (mg : Str → Option Value) (x : Str) (v : V) : Prop := ∃ u, mg x = some u ∧ RelV v u
theorem pe_g {X : Cx} {x : Str} {v : V} {pos : Pos} (h : GlV X.mg x v) (hg : Gl X x := by rfl) (hd : (x == ("__debug__" : Str)) = false := by decide) : PE X (.Name x pos) (tC v) := by
  obtain ⟨u, h1, h2⟩ := h
  exact pe_glob hg h1 h2 hd
/-- tests -/
def cTest (t : TE) : TT := fun σ H Q => t σ H fun x H' => match x with | .bl k => Q k H' | _ => False
section
variable {X : Cx} {a b c e : Expr} {ta tb tc te : TE} {tt : TT} {rest : List Expr} {pos : Pos}
theorem imp_Q {X : Cx} {e : Expr} {t : TE} {R R' : V → Hp → Prop} : True := trivial
end
/-- a reading that may be weakened at its end -/
def Mono (t : TE) : Prop := ∀ σ H (Q Q' : VK), (∀ v H', Q v H' → Q' v H') → t σ H Q → t σ H Q'
theorem run_mono {X : Cx} {e : Expr} {t : TE} (h : PE X e t) {t' : TE} (i : ∀ σ H Q, t' σ H Q → ∃ Q0 : VK, (∀ v H', Q0 v H' → Q v H') ∧ t σ H Q0) : PE X e t' := ⟨fun pins s σ H Q I q => by
  obtain ⟨Q0, w, z⟩ := i σ H Q q
  exact thn (h.run pins s σ H Q0 I z) fun u s1 ⟨v, H1, I1, r, q1⟩ => ⟨v, H1, I1, r, w v H1 q1⟩⟩
theorem run_monoT {X : Cx} {e : Expr} {t : TT} (h : PT X e t) {t' : TT} (i : ∀ σ H Q, t' σ H Q → ∃ Q0 : Bool → Hp → Prop, (∀ v H', Q0 v H' → Q v H') ∧ t σ H Q0) : PT X e t' := ⟨fun pins s σ H Q I q => by
  obtain ⟨Q0, w, z⟩ := i σ H Q q
  exact thn (h.run pins s σ H Q0 I z) fun u s1 ⟨H1, I1, q1⟩ => ⟨H1, I1, w u H1 q1⟩⟩
section
variable {X : Cx} {a b c e : Expr} {ta tb tc te : TE} {tt : TT} {rest : List Expr} {pos : Pos}
theorem testM {Q : Bool → Hp → Prop} : ∀ (v : V) (H' : Hp), (match v with | .bl k => Q k H' | _ => False) → ∃ k, v = .bl k ∧ Q k H'
  | .bl k, _, q => ⟨k, rfl, q⟩
  | .non, _, q => q.elim
  | .int _, _, q => q.elim
  | .str _, _, q => q.elim
  | .byt _, _, q => q.elim
  | .flt _, _, q => q.elim
  | .ref _, _, q => q.elim
  | .ty _, _, q => q.elim
/-- an expression that gives a bool, as a test -/
theorem pt_cmpU {op : CmpOp} {r : R2} (ho : OpR X (compareOp op) r) (ha : PE X a ta) (hb : PE X b tb) (hm : behindInMarks op b = false) : PT X (.Compare a [op] [b] pos) (cTest (tOp r ta tb)) := by
  refine ⟨fun pins s σ H Q I q => ?_⟩
  have ho' : OpR X (compareOp op) (fun x y H Q => ∃ Q0 : VK, (∀ v H', Q0 v H' → Q v H') ∧ r x y H Q0) := by
    intro pins s σ H x y v u Q I rx ry h
    obtain ⟨Q0, w, z⟩ := h
    exact thn (ho pins s σ H x y v u Q0 I rx ry z) fun u s1 ⟨v, H1, I1, r, q1⟩ => ⟨v, H1, I1, r, w v H1 q1⟩
  have ha' : PE X a (fun σ H Q => ∃ Q0 : VK, (∀ v H', Q0 v H' → Q v H') ∧ ta σ H Q0) := run_mono ha fun _ _ _ z => z
  have hb' : PE X b (fun σ H Q => ∃ Q0 : VK, (∀ v H', Q0 v H' → Q v H') ∧ tb σ H Q0) := run_mono hb fun _ _ _ z => z
  refine (pt_cmpR ho' ha' hb' hm).run pins s σ H Q I ?_
  exact ⟨_, fun x H1 z => ⟨_, fun y H2 z2 => ⟨_, fun v H3 z3 => testM v H3 z3, z2⟩, z⟩, q⟩
def cChain (r r' : R2) (ta tb tc : TE) : TE := fun σ H Q => ta σ H fun x H1 => tb σ H1 fun y H2 => r x y H2 fun z H3 => match z with
  | .bl k => if k = true then tc σ H3 fun w' H4 => r' y w' H4 Q else Q (.bl false) H3
  | _ => False
theorem chM {A : Bool → Hp → Prop} : ∀ (v : V) (H' : Hp), (match v with | .bl k => A k H' | _ => False) → ∃ k, v = .bl k ∧ A k H' := fun v H' q => testM v H' q
theorem mono_o {f : Value → Value → Sem Value} {r : R2} (ho : OpR X f r) : OpR X f (fun x y H Q => ∃ Q0 : VK, (∀ v H', Q0 v H' → Q v H') ∧ r x y H Q0) := by
  intro pins s σ H x y v u Q I rx ry h
  obtain ⟨Q0, w, z⟩ := h
  exact thn (ho pins s σ H x y v u Q0 I rx ry z) fun u s1 ⟨v, H1, I1, r, q1⟩ => ⟨v, H1, I1, r, w v H1 q1⟩
theorem mono_e {e : Expr} {t : TE} (h : PE X e t) : PE X e (fun σ H Q => ∃ Q0 : VK, (∀ v H', Q0 v H' → Q v H') ∧ t σ H Q0) := run_mono h fun _ _ _ z => z
theorem mono_t {e : Expr} {t : TT} (h : PT X e t) : PT X e (fun σ H Q => ∃ Q0 : Bool → Hp → Prop, (∀ v H', Q0 v H' → Q v H') ∧ t σ H Q0) := run_monoT h fun _ _ _ z => z
theorem pe_chainU {op op' : CmpOp} {r r' : R2} (ho : OpR X (compareOp op) r) (ho' : OpR X (compareOp op') r') (ha : PE X a ta) (hb : PE X b tb) (hc : PE X c tc)
    (hm : lastMarks [op, op'] [b, c] = false := by with_unfolding_all rfl) : PE X (.Compare a [op, op'] [b, c] pos) (cChain r r' ta tb tc) :=
  imp_e (pe_chain (mono_o ho) ho' (mono_e ha) (mono_e hb) hc hm) fun σ H Q q => ⟨_, fun x H1 z => ⟨_, fun y H2 z2 => ⟨_, fun v H3 z3 => testM (Q := fun k H3 => if k = true then tc σ H3 fun w' H4 => r' y w' H4 Q else Q (.bl false) H3) v H3 z3, z2⟩, z⟩, q⟩
theorem pt_chainU {op op' : CmpOp} {r r' : R2} (ho : OpR X (compareOp op) r) (ho' : OpR X (compareOp op') r') (ha : PE X a ta) (hb : PE X b tb) (hc : PE X c tc)
    (hm : lastMarks [op, op'] [b, c] = false := by with_unfolding_all rfl) : PT X (.Compare a [op, op'] [b, c] pos) (cTest (cChain r r' ta tb tc)) := by
  refine imp_t (pt_chain (mono_o ho) (mono_o ho') (mono_e ha) (mono_e hb) (mono_e hc) hm) fun σ H Q q => ?_
  refine ⟨_, fun x H1 z => ⟨_, fun y H2 z2 => ⟨_, fun v H3 z3 => ?_, z2⟩, z⟩, q⟩
  obtain ⟨k, e, z4⟩ := testM (Q := fun k H3 => if k = true then tc σ H3 fun w' H4 => r' y w' H4 _ else _) v H3 z3
  refine ⟨k, e, ?_⟩
  cases k with
  | true =>
    rw [if_pos rfl] at z4 ⊢
    exact ⟨_, fun w' H4 z5 => ⟨_, fun v H5 z6 => testM v H5 z6, z5⟩, z4⟩
  | false =>
    rw [if_neg Bool.false_ne_true] at z4 ⊢
    exact ⟨false, rfl, z4⟩
/-- a value's truth -/
def cTru (K : PySem.W.Frag) (x : V) (H : Hp) (Q : Bool → Hp → Prop) : Prop := match x with
  | .non => Q false H
  | .bl b => Q b H
  | .int i => Q (i != 0) H
  | .str y => y.length ≤ sizeLine ∧ Q ((y.length : Int) != 0) H
  | .ref p => ∃ k, TruV K (.ref p) H k ∧ Q k H
  | _ => False
theorem cTru.ex {K : PySem.W.Frag} {x : V} {H : Hp} {Q : Bool → Hp → Prop} (h : cTru K x H Q) : ∃ k, TruV K x H k ∧ Q k H := by
  cases x with
  | non => exact ⟨false, rfl, h⟩
  | bl b => exact ⟨b, rfl, h⟩
  | int i => exact ⟨_, rfl, h⟩
  | str y => exact ⟨_, ⟨h.1, rfl⟩, h.2⟩
  | ref p => exact h
  | byt _ => exact h.elim
  | flt _ => exact h.elim
  | ty _ => exact h.elim
def cAnd (K : PySem.W.Frag) (ta tb : TE) : TE := fun σ H Q => ta σ H fun x H1 => cTru K x H1 fun k H1 => if k = true then tb σ H1 Q else Q x H1
def cOr (K : PySem.W.Frag) (ta tb : TE) : TE := fun σ H Q => ta σ H fun x H1 => cTru K x H1 fun k H1 => if k = true then Q x H1 else tb σ H1 Q
def cNot (K : PySem.W.Frag) (ta : TE) : TE := fun σ H Q => ta σ H fun x H1 => cTru K x H1 fun k H1 => Q (.bl (!k)) H1
def cTruth (K : PySem.W.Frag) (ta : TE) : TT := fun σ H Q => ta σ H fun x H1 => cTru K x H1 Q
theorem cTru.at {K : PySem.W.Frag} {x : V} {H : Hp} {Q : Bool → Hp → Prop} (h : cTru K x H Q) : ∃ k, TruV K x H k ∧ Q k H := h.ex
theorem pe_andU {K : PySem.W.Frag} (ha : PE X a ta) (hb : PE X (.BoolOp .And (b :: rest) pos) tb) (hK : X.K = K := by rfl) : PE X (.BoolOp .And (a :: b :: rest) pos) (cAnd K ta tb) :=
  hK ▸ imp_e (pe_andT (mono_e ha) hb) fun σ H Q q => ⟨_, fun x H1 z => (cTru.at z : ∃ k, TruV X.K x H1 k ∧ if k = true then tb σ H1 Q else Q x H1), q⟩
theorem pe_orU {K : PySem.W.Frag} (ha : PE X a ta) (hb : PE X (.BoolOp .Or (b :: rest) pos) tb) (hK : X.K = K := by rfl) : PE X (.BoolOp .Or (a :: b :: rest) pos) (cOr K ta tb) :=
  hK ▸ imp_e (pe_orT (mono_e ha) hb) fun σ H Q q => ⟨_, fun x H1 z => (cTru.at z : ∃ k, TruV X.K x H1 k ∧ if k = true then Q x H1 else tb σ H1 Q), q⟩
theorem pe_notU {K : PySem.W.Frag} (ha : PE X a ta) (hK : X.K = K := by rfl) : PE X (.UnaryOp .Not a pos) (cNot K ta) :=
  hK ▸ imp_e (pe_notT (mono_e ha)) fun σ H Q q => ⟨_, fun x H1 z => (cTru.at z : ∃ k, TruV X.K x H1 k ∧ Q (.bl (!k)) H1), q⟩
theorem pt_truthU {K : PySem.W.Frag} (ha : PE X a ta) (he : ∀ whole, isTrue a X.env whole = (do let v ← whole; standAt a.pos; holding [v] (truthy v))) (hK : X.K = K := by rfl) : PT X a (cTruth K ta) :=
  hK ▸ imp_t (pt_truth (mono_e ha) he) fun σ H Q q => ⟨_, fun x H1 z => (cTru.at z : ∃ k, TruV X.K x H1 k ∧ Q k H1), q⟩
end
/-! ### operators -/
section
variable {X : Cx}
def rAddU (K : PySem.W.Frag) : R2 := fun x y H Q => match x, y with
  | .int i, .int j => Q (.int (i + j)) H
  | .str a, .str b => a.length + b.length ≤ sizeLine ∧ Q (.str (a ++ b)) H
  | .ref a, .ref b => rCat (.ref a) (.ref b) H Q ∨ rCatT K (.ref a) (.ref b) H Q
  | _, _ => False
theorem opU_add {K : PySem.W.Frag} (hK : X.K = K := by rfl) : OpR X (binaryOp .Add) (rAddU K) := hK ▸ imp_o (op_add.or (op_add_str.or (op_cat.or op_catT))) fun x y H Q q => by
  unfold rAddU at q
  split at q
  · exact .inl ⟨_, _, rfl, rfl, q⟩
  · exact .inr (.inl ⟨_, _, rfl, rfl, q.1, q.2⟩)
  · exact .inr (.inr q)
  · exact q.elim
def rSubU : R2 := fun x y H Q => match x, y with
  | .int i, .int j => Q (.int (i - j)) H
  | _, _ => False
theorem opU_sub : OpR X (binaryOp .Sub) rSubU := imp_o op_sub fun x y H Q q => by
  unfold rSubU at q
  split at q
  · exact ⟨_, _, rfl, rfl, q⟩
  · exact q.elim
def rMulU : R2 := fun x y H Q => match x, y with
  | .int i, .int j => (CMul i j ∨ CMulW i j) ∧ Q (.int (i * j)) H
  | .ref a, .int k => rRep (.ref a) (.int k) H Q
  | _, _ => False
theorem opU_mul : OpR X (binaryOp .Mult) rMulU := imp_o (op_mul.or (op_mulW.or op_rep)) fun x y H Q q => by
  unfold rMulU at q
  split at q
  · rcases q.1 with c | c
    · exact .inl ⟨_, _, rfl, rfl, c, q.2⟩
    · exact .inr (.inl ⟨_, _, rfl, rfl, c, q.2⟩)
  · exact .inr (.inr q)
  · exact q.elim
def rModU : R2 := fun x y H Q => match x, y with
  | .int i, .int j => 0 < j ∧ Q (.int (i % j)) H
  | _, _ => False
theorem opU_mod : OpR X (binaryOp .Mod) rModU := imp_o op_mod fun x y H Q q => by
  unfold rModU at q
  split at q
  · exact ⟨_, _, rfl, rfl, q.1, q.2⟩
  · exact q.elim
def rDivU : R2 := fun x y H Q => match x, y with
  | .int i, .int j => CDivW i j ∧ Q (.int (i / j)) H
  | _, _ => False
theorem opU_div : OpR X (binaryOp .FloorDiv) rDivU := imp_o op_fdivW fun x y H Q q => by
  unfold rDivU at q
  split at q
  · exact ⟨_, _, rfl, rfl, q.1, q.2⟩
  · exact q.elim
def rPowU : R2 := fun x y H Q => match x, y with
  | .int i, .int j => CPow i j ∧ Q (.int (i ^ j.toNat)) H
  | _, _ => False
theorem opU_pow : OpR X (binaryOp .Pow) rPowU := imp_o op_pow fun x y H Q q => by
  unfold rPowU at q
  split at q
  · exact ⟨_, _, rfl, rfl, q.1, q.2⟩
  · exact q.elim
def rNegU : V → Hp → VK → Prop := fun x H Q => match x with
  | .int i => Q (.int (-i)) H
  | _ => False
theorem unU_neg : UnR X (unaryOp .USub) rNegU := fun pins s σ H x v Q I rx q => un_neg pins s σ H x v Q I rx (by
  unfold rNegU at q
  split at q
  · exact ⟨_, rfl, q⟩
  · exact q.elim)
/-- order -/
def rOrd (f : Int → Int → Bool) (g : List Nat → List Nat → Bool) : R2 := fun x y H Q => match x, y with
  | .int i, .int j => Q (.bl (f i j)) H
  | .str a, .str b => Q (.bl (g a.cps.toList b.cps.toList)) H
  | _, _ => False
theorem opU_lt : OpR X (compareOp .Lt) (rOrd (fun i j => decide (i < j)) fun a b => decide (a < b)) := imp_o (op_lt.or op_lt_str) fun x y H Q q => by
  unfold rOrd at q
  split at q
  · exact .inl ⟨_, _, rfl, rfl, q⟩
  · exact .inr ⟨_, _, rfl, rfl, q⟩
  · exact q.elim
def rLeU : R2 := fun x y H Q => match x, y with
  | .int i, .int j => Q (.bl (decide (i ≤ j))) H
  | .str a, .str b => Q (.bl (!decide (b.cps.toList < a.cps.toList))) H
  | _, _ => False
theorem opU_le : OpR X (compareOp .LtE) rLeU := imp_o (op_le.or op_le_str) fun x y H Q q => by
  unfold rLeU at q
  split at q
  · exact .inl ⟨_, _, rfl, rfl, q⟩
  · exact .inr ⟨_, _, rfl, rfl, q⟩
  · exact q.elim
def rGtU : R2 := fun x y H Q => match x, y with
  | .int i, .int j => Q (.bl (decide (j < i))) H
  | _, _ => False
theorem opU_gt : OpR X (compareOp .Gt) rGtU := imp_o op_gt fun x y H Q q => by
  unfold rGtU at q
  split at q
  · exact ⟨_, _, rfl, rfl, q⟩
  · exact q.elim
def rGeU : R2 := fun x y H Q => match x, y with
  | .int i, .int j => Q (.bl (decide (j ≤ i))) H
  | _, _ => False
theorem opU_ge : OpR X (compareOp .GtE) rGeU := imp_o op_ge fun x y H Q q => by
  unfold rGeU at q
  split at q
  · exact ⟨_, _, rfl, rfl, q⟩
  · exact q.elim
/-- == -/
def rEqU (K : PySem.W.Frag) : R2 := fun x y H Q => match scal x y with | true => Q (.bl (decide (x = y))) H | false => rEqD K x y H Q
def rNeU (K : PySem.W.Frag) : R2 := fun x y H Q => match scal x y with | true => Q (.bl (!decide (x = y))) H | false => rNeD K x y H Q
theorem roomU {k : Nat} {A : Around} (r : Room k A) : A.units + 64 < cLine := by have := r.un; omega
theorem opU_eq {K : PySem.W.Frag} {k : Nat} (r : Room k X.A) (hK : X.K = K := by rfl) : OpR X (compareOp .Eq) (rEqU K) := hK ▸ imp_o (op_eq.or (op_eqD (roomU r))) fun x y H Q q => by
  unfold rEqU at q
  split at q
  · rename_i e
    exact .inl ⟨e, q⟩
  · exact .inr q
theorem opU_ne {K : PySem.W.Frag} {k : Nat} (r : Room k X.A) (hK : X.K = K := by rfl) : OpR X (compareOp .NotEq) (rNeU K) := hK ▸ imp_o (op_ne.or (op_neD (roomU r))) fun x y H Q q => by
  unfold rNeU at q
  split at q
  · rename_i e
    exact .inl ⟨e, q⟩
  · exact .inr q
def rIsU (n : Bool) : R2 := fun x y H Q => match y with
  | .non => Q (.bl (n != decide (x = .non))) H
  | _ => False
theorem opU_is : OpR X (compareOp .Is) (rIsU false) := imp_o op_isN fun x y H Q q => by
  unfold rIsU at q
  split at q
  · exact ⟨rfl, by simpa using q⟩
  · exact q.elim
theorem opU_isnot : OpR X (compareOp .IsNot) (rIsU true) := imp_o op_notN fun x y H Q q => by
  unfold rIsU at q
  split at q
  · exact ⟨rfl, by simpa using q⟩
  · exact q.elim
/-- in -/
def rInU (K : PySem.W.Frag) (n : Bool) : R2 := fun x y H Q => match x, y with
  | .str s, .str z => ∃ c, s = ⟨#[c]⟩ ∧ Q (.bl (n != decide (c ∈ z.cps.toList))) H
  | x, .ref p => rIn K n x (.ref p) H Q
  | _, _ => False
theorem opU_in {K : PySem.W.Frag} {k : Nat} (r : Room k X.A) (hK : X.K = K := by rfl) : OpR X (compareOp .In) (rInU K false) := hK ▸ imp_o (op_in_sign.or op_in_seq) fun x y H Q q => by
  unfold rInU at q
  split at q
  · obtain ⟨c, rfl, q⟩ := q
    exact .inl ⟨c, _, rfl, rfl, by simpa using q⟩
  · exact .inr q
  · exact q.elim
theorem opU_notin {K : PySem.W.Frag} {k : Nat} (r : Room k X.A) (hK : X.K = K := by rfl) : OpR X (compareOp .NotIn) (rInU K true) := hK ▸ imp_o (op_notIn_sign.or op_notIn_seq) fun x y H Q q => by
  unfold rInU at q
  split at q
  · obtain ⟨c, rfl, q⟩ := q
    exact .inl ⟨c, _, rfl, rfl, by simpa using q⟩
  · exact .inr q
  · exact q.elim
/-- x[i] -/
def rIxU (K : PySem.W.Frag) : R2 := fun x y H Q => match x, y with
  | .str z, .int i => z.length ≤ sizeLine ∧ ∃ c, atI z.cps.toList i = some c ∧ Q (.str ⟨#[c]⟩) H
  | .ref p, .int i => ∃ xs v, (SqL K H p xs ∨ SqT K H p xs) ∧ atI xs i = some v ∧ Q v H
  | _, _ => False
theorem ixU {K : PySem.W.Frag} (hK : X.K = K := by rfl) : IxR X (rIxU K) := by
  subst hK
  intro value slice pins s σ H x y v u Q I rx ry q hs
  refine ix_seq value slice pins s σ H x y v u Q I rx ry ?_ hs
  unfold rIxU at q
  split at q
  · obtain ⟨h1, c, h2, q⟩ := q
    exact .inr (.inr ⟨_, _, c, rfl, rfl, h1, h2, q⟩)
  · obtain ⟨xs, w, h1 | h1, h2, q⟩ := q
    · exact .inl ⟨_, xs, _, w, rfl, rfl, h1, h2, q⟩
    · exact .inr (.inl ⟨_, xs, _, w, rfl, rfl, h1, h2, q⟩)
  · exact q.elim
/-- x[i:j] -/
def rSlU (K : PySem.W.Frag) : V → Option Int → Option Int → Hp → VK → Prop := fun x lo hi H Q => match x with
  | .str z => z.length ≤ sizeLine ∧ Q (.str (cutS z lo hi)) H
  | .ref p => rSlL K (.ref p) lo hi H Q ∨ rSlT K (.ref p) lo hi H Q
  | _ => False
theorem slU {K : PySem.W.Frag} (hK : X.K = K := by rfl) : SlR X (rSlU K) := by
  subst hK
  intro pins s σ H x v vl vu lo hi sl Q I rx hs pl pu q
  refine (sl_str.or (sl_list.or sl_tup)) pins s σ H x v vl vu lo hi sl Q I rx hs pl pu ?_
  unfold rSlU at q
  split at q
  · exact .inl ⟨_, rfl, q.1, q.2⟩
  · exact .inr q
  · exact q.elim
def cPart (t : TE) : TO := fun σ H Q => t σ H fun x H1 => match x with | .int i => Q (some i) H1 | _ => False
theorem imp_po {e : Option Expr} {t t' : TO} (h : PO X e t) (i : ∀ σ H Q, t' σ H Q → t σ H Q) : PO X e t' := ⟨fun pins s σ H Q I q => h.run pins s σ H Q I (i σ H Q q)⟩
theorem po_someU {e : Expr} {t : TE} (h : PE X e t) : PO X (some e) (cPart t) := imp_po (po_some (mono_e h)) fun σ H Q q => ⟨_, fun x H1 z => by
  revert z
  cases x <;> intro z <;> first | exact ⟨_, rfl, z⟩ | exact z.elim, q⟩
/-! ### built-ins -/
def rLenU (K : PySem.W.Frag) : List V → Hp → VK → Prop := fun xs H Q => match xs with
  | [.str z] => z.length ≤ sizeLine ∧ Q (.int z.length) H
  | [.ref p] => (∃ ys, (SqL K H p ys ∨ SqT K H p ys) ∧ Q (.int ys.length) H) ∨ ∃ kvs, H p = some (.dK kvs) ∧ Q (.int kvs.length) H
  | _ => False
theorem callU_len {K : PySem.W.Frag} (hK : X.K = K := by rfl) : CallR X (.builtin "len") (rLenU K) := hK ▸ imp_c (call_len_str.or (call_len_seq.or call_lenD)) fun xs H Q q => by
  unfold rLenU at q
  split at q
  · exact .inl ⟨_, rfl, q.1, q.2⟩
  · rcases q with ⟨ys, h, q⟩ | ⟨kvs, h, q⟩
    · exact .inr (.inl ⟨_, ys, rfl, h, q⟩)
    · exact .inr (.inr ⟨_, kvs, rfl, h, q⟩)
  · exact q.elim
/-- isinstance of a value whose type is known -/
def IsiV (K : PySem.W.Frag) (H : Hp) (x : V) (n : String) (b : Bool) : Prop := ∃ t, TyX K H x t ∧ PySem.W.kitOne K t (.type n) = some b
def rIsiU (K : PySem.W.Frag) : List V → Hp → VK → Prop := fun xs H Q => match xs with
  | [x, .ty n] => ∃ b, IsiV K H x n b ∧ Q (.bl b) H
  | [x, .ref c] => rIsi K [x, .ref c] H Q ∨ rIsiT K [x, .ref c] H Q
  | _ => False
theorem callU_isi {K : PySem.W.Frag} (hK : X.K = K := by rfl) : CallR X (.builtin "isinstance") (rIsiU K) := hK ▸ imp_c (call_isi.or call_isiT) fun xs H Q q => by
  unfold rIsiU at q
  split at q
  · obtain ⟨b, ⟨t, h1, h2⟩, q⟩ := q
    exact .inl ⟨_, _, t, _, b, rfl, .ty _, h1, h2, q⟩
  · exact q
  · exact q.elim
def rIntU : List V → Hp → VK → Prop := fun xs H Q => match xs with
  | [.int i] => Q (.int i) H
  | [.bl k] => Q (.int (if k then 1 else 0)) H
  | [.str a] => ∃ n, PySem.intText? a = some n ∧ a.length ≤ 640 ∧ Q (.int n) H
  | _ => False
theorem callU_int : CallR X (.type "int") rIntU := imp_c (call_int1.or call_int_str) fun xs H Q q => by
  unfold rIntU at q
  split at q
  · exact .inl (.inl ⟨_, rfl, q⟩)
  · exact .inl (.inr ⟨_, rfl, q⟩)
  · obtain ⟨n, h1, h2, q⟩ := q
    exact .inr ⟨_, n, rfl, h1, h2, q⟩
  · exact q.elim
def rStrU : List V → Hp → VK → Prop := fun xs H Q => match xs with
  | [.int i] => i.natAbs.log2 < 1920 ∧ Q (.str (toString i)) H
  | _ => False
theorem callU_str : CallR X (.type "str") rStrU := imp_c call_str_int fun xs H Q q => by
  unfold rStrU at q
  split at q
  · exact ⟨_, rfl, q.1, q.2⟩
  · exact q.elim
def rListU (K : PySem.W.Frag) : List V → Hp → VK → Prop := fun xs H Q => match xs with
  | [.ref p] => ∃ ys, (SqL K H p ys ∨ SqT K H p ys) ∧ ∀ l, H l = none → Q (.ref l) (upd H l (.lst ys))
  | _ => False
theorem callU_list {K : PySem.W.Frag} (hK : X.K = K := by rfl) : CallR X (.type "list") (rListU K) := hK ▸ imp_c call_list_of fun xs H Q q => by
  unfold rListU at q
  split at q
  · obtain ⟨ys, h, q⟩ := q
    exact ⟨_, ys, rfl, h, q⟩
  · exact q.elim
def rTupU (K : PySem.W.Frag) : List V → Hp → VK → Prop := fun xs H Q => match xs with
  | [.ref p] => ∃ ys, (SqL K H p ys ∧ ∀ l, H l = none → Q (.ref l) (upd H l (.tup ys))) ∨ (SqT K H p ys ∧ Q (.ref p) H)
  | _ => False
theorem callU_tuple {K : PySem.W.Frag} (hK : X.K = K := by rfl) : CallR X (.type "tuple") (rTupU K) := hK ▸ imp_c call_tuple_of fun xs H Q q => by
  unfold rTupU at q
  split at q
  · obtain ⟨ys, q⟩ := q
    exact ⟨_, ys, rfl, q⟩
  · exact q.elim
def rMin2U : List V → Hp → VK → Prop := fun xs H Q => match xs with
  | [.int i, .int j] => Q (.int (if j < i then j else i)) H
  | _ => False
def rMax2U : List V → Hp → VK → Prop := fun xs H Q => match xs with
  | [.int i, .int j] => Q (.int (if j > i then j else i)) H
  | _ => False
theorem callU_min2 (hc : X.calm = true) : CallR X (.builtin "min") rMin2U := imp_c (call_min2 hc) fun xs H Q q => by
  unfold rMin2U at q
  split at q
  · exact ⟨_, _, rfl, q⟩
  · exact q.elim
theorem callU_max2 (hc : X.calm = true) : CallR X (.builtin "max") rMax2U := imp_c (call_max2 hc) fun xs H Q q => by
  unfold rMax2U at q
  split at q
  · exact ⟨_, _, rfl, q⟩
  · exact q.elim
def rAllU (K : PySem.W.Frag) (f : List Bool → Bool) : List V → Hp → VK → Prop := fun xs H Q => match xs with
  | [.ref a] => ∃ bs : List Bool, SqL K H a (bs.map V.bl) ∧ Q (.bl (f bs)) H
  | _ => False
theorem callU_all {K : PySem.W.Frag} (hc : X.calm = true) (hK : X.K = K := by rfl) : CallR X (.builtin "all") (rAllU K fun bs => bs.all id) := hK ▸ imp_c (cr_all hc) fun xs H Q q => by
  unfold rAllU at q
  split at q
  · obtain ⟨bs, h, q⟩ := q
    exact ⟨_, bs, rfl, h, q⟩
  · exact q.elim
theorem callU_any {K : PySem.W.Frag} (hc : X.calm = true) (hK : X.K = K := by rfl) : CallR X (.builtin "any") (rAllU K fun bs => bs.any id) := hK ▸ imp_c (cr_any hc) fun xs H Q q => by
  unfold rAllU at q
  split at q
  · obtain ⟨bs, h, q⟩ := q
    exact ⟨_, bs, rfl, h, q⟩
  · exact q.elim
/-- xs[i] = v -/
def rSetU : V → V → V → Hp → (Hp → Prop) → Prop := fun o i v H Q => match o, i with
  | .ref p, .int k => ∃ xs j, H p = some (.lst xs) ∧ ixN xs.length k = some j ∧ Q (upd H p (.lst (xs.set j v)))
  | _, _ => False
theorem setU : PSet X rSetU := by
  intro pins s σ H o i v ov iv u Q I ro ri rv h
  refine set_list pins s σ H o i v ov iv u Q I ro ri rv ?_
  unfold rSetU at h
  split at h
  · obtain ⟨xs, j, h1, h2, q⟩ := h
    exact ⟨_, xs, _, j, rfl, rfl, h1, h2, q⟩
  · exact h.elim
end
/-! ### the rest with the written part told -/
section
variable {X : Cx} {K : PySem.W.Frag}
theorem pe_ty {x : Str} {pos : Pos} (n : String) (hm : X.mg x = none) (hv : bootBuiltins x = some (.type n) := by decide +kernel) (hg : Gl X x := by rfl) (hn : x ≠ "__name__" := by decide) (hd : (x == ("__debug__" : Str)) = false := by decide) : PE X (.Name x pos) (tC (.ty n)) :=
  pe_bltn hg hm hv rfl hn hd
theorem pi_listK {tg l : Expr} {tl : TE} (hl : PE X l tl) (hK : X.K = K := by rfl) : PI X tg l (iList K tl) := hK ▸ pi_list hl
theorem pi_tupK {tg l : Expr} {tl : TE} (hl : PE X l tl) (hK : X.K = K := by rfl) : PI X tg l (iTup K tl) := hK ▸ pi_tup hl
theorem pg_tupK {es : List Expr} {k : Nat} {t : TGs} {n : Nat} {pos : Pos} (hc : X.calm = true) (h : PGs X es t)
    (hn : (assignEach es X.env).length = n := by rfl) (hst : (assignEach es X.env).findIdx? (·.1) = none := by rfl) (hK : X.K = K := by rfl) : PG X (.Tuple es k pos) (gTup K n t) := hK ▸ pg_tup hc h hn hst
theorem pe_fldK {e : Expr} {f : Str} {ta : TE} {pos : Pos} (he : PE X e ta) (hb : attributeBase e f X.env (eval e X.env) = eval e X.env) (hK : X.K = K := by rfl) : PE X (.Attribute e f pos) (tFld K ta f) := hK ▸ pe_fld he hb
end
/-! ### defs -/
structure Ok (P : Program) (w : World) (K : PySem.W.Frag) (mg : Str → Option Value) (base : Heap) (k : Nat) (x : Str) (ps : List Str) (sp : Sp) : Prop where
  ex : ∃ f fd, mg x = some (.ref f) ∧ PySem.W.keepIn K (.ref f) = true ∧ Binds K fd ps [] ∧ FnOk P w K mg base (L2.CX P w) k f fd ps sp
structure FnAt (K : PySem.W.Frag) (mg : Str → Option Value) (x qual : Str) (st : Stmt) (ps : List Str) : Prop where
  ex : ∃ f fd, mg x = some (.ref f) ∧ Fun K x qual st f fd ∧ Binds K fd ps []
theorem okF {P : Program} {w : World} {K : PySem.W.Frag} {mg : Str → Option Value} {base : Heap} {x qual : Str} {st : Stmt} {N ps : List Str} {k : Nat} {sp : Sp} (F : FnAt K mg x qual st ps) (S : FnScope N ps (defScope st)) (len : ∀ vs H Q E, sp vs H Q E → vs.length = ps.length)
    (hbody : ∀ (f : Addr) (cdv : Value) (A : Around) (outer : List Env) (s : Shared) (H : Hp) (vs : List V) (Q : VK) (E : XK), Room k (A.deeper (envOfC qual (defScope st) s.heap.objs.size f cdv)) → sp vs H Q E →
      ∃ t, PSs (cxOf (L2.CX P w) P w K mg base N qual (defScope st) f cdv A outer s H (bE H E)) (defBody st) t ∧ t { nx := fun _ H' => bQ H Q .non H', rt := bQ H Q } (start N vs) H) : Ok P w K mg base (k + 1) x ps sp := by
  obtain ⟨f, fd, h1, h2, h3⟩ := F.ex
  exact ⟨f, fd, h1, h2.kp, h3, okX h2 S len (hbody f)⟩
section
variable {X : Cx} {k j : Nat} {x : Str} {ps : List Str} {sp : Sp} {E : XK} {p pos : Pos} {e : Expr} {es : List Expr} {t : TA}
def cCall (sp : Sp) (E : XK) (t : TA) : TE := fun σ H Q => t σ H fun vs H1 => sp vs H1 Q E
theorem pe_f (O : Ok X.prog X.w X.K X.mg X.base k x ps sp) (hr : Room k X.A) (hx : Passes (L2.CX X.prog X.w) X E) (ha : PA X (e :: es) t) (hg : Gl X x := by rfl)
    (hdb : (x == ("__debug__" : Str)) = false := by decide) (he : starEach (e :: es) X.env = (false, eval e X.env) :: starEach es X.env := by rfl) (hpl : (backTo pos (starEach es X.env)).any (·.1) = false := by rfl) :
    PE X (.Call (.Name x p) (e :: es) [] pos) (cCall sp E t) := by
  obtain ⟨f, fd, h1, h2, h3, F⟩ := O.ex
  have ha' : PA X (e :: es) (fun σ H Q => ∃ Q0 : List V → Hp → Prop, (∀ v H', Q0 v H' → Q v H') ∧ t σ H Q0) := ⟨fun pos pins s σ H Q I q => by
    obtain ⟨Q0, w, z⟩ := q
    exact thn (ha.run pos pins s σ H Q0 I z) fun u s1 ⟨v, H1, I1, r, q1⟩ => ⟨v, H1, I1, r, w v H1 q1⟩⟩
  refine imp_e (pe_call F hr hg h1 h2 h3 .nil hx ha' hdb he hpl) fun σ H Q q => ⟨_, fun vs H1 z => ?_, q⟩
  show sp (vs ++ []) H1 Q E
  rw [List.append_nil]
  exact z
theorem pe_f0 (O : Ok X.prog X.w X.K X.mg X.base k x ps sp) (hr : Room k X.A) (hx : Passes (L2.CX X.prog X.w) X E) (hg : Gl X x := by rfl)
    (hdb : (x == ("__debug__" : Str)) = false := by decide) : PE X (.Call (.Name x p) [] [] pos) (cCall sp E tNil) := by
  obtain ⟨f, fd, h1, h2, h3, F⟩ := O.ex
  exact imp_e (pe_call0 F hr hg h1 h2 h3 .nil hx hdb) fun σ H Q q => q
end
end R
namespace R
open PySem PySem.Spec PyProof.Rows L2
/-! ### arguments by their number -/
def arg1 (R : V → Prop) : List V → Prop | [a] => R a | _ => False
def arg2 (R : V → V → Prop) : List V → Prop | [a, b] => R a b | _ => False
def arg3 (R : V → V → V → Prop) : List V → Prop | [a, b, c] => R a b c | _ => False
def arg4 (R : V → V → V → V → Prop) : List V → Prop | [a, b, c, d] => R a b c d | _ => False
def arg5 (R : V → V → V → V → V → Prop) : List V → Prop | [a, b, c, d, e] => R a b c d e | _ => False
theorem arg1.ex {R : V → Prop} : ∀ {vs : List V}, arg1 R vs → ∃ a, vs = [a] ∧ R a
  | [a], h => ⟨a, rfl, h⟩
  | [], h => h.elim
  | _ :: _ :: _, h => h.elim
theorem arg2.ex {R : V → V → Prop} : ∀ {vs : List V}, arg2 R vs → ∃ a b, vs = [a, b] ∧ R a b
  | [a, b], h => ⟨a, b, rfl, h⟩
  | [], h => h.elim
  | [_], h => h.elim
  | _ :: _ :: _ :: _, h => h.elim
theorem arg3.ex {R : V → V → V → Prop} : ∀ {vs : List V}, arg3 R vs → ∃ a b c, vs = [a, b, c] ∧ R a b c
  | [a, b, c], h => ⟨a, b, c, rfl, h⟩
  | [], h => h.elim
  | [_], h => h.elim
  | [_, _], h => h.elim
  | _ :: _ :: _ :: _ :: _, h => h.elim
theorem arg4.ex {R : V → V → V → V → Prop} : ∀ {vs : List V}, arg4 R vs → ∃ a b c d, vs = [a, b, c, d] ∧ R a b c d
  | [a, b, c, d], h => ⟨a, b, c, d, rfl, h⟩
  | [], h => h.elim
  | [_], h => h.elim
  | [_, _], h => h.elim
  | [_, _, _], h => h.elim
  | _ :: _ :: _ :: _ :: _ :: _, h => h.elim
theorem arg5.ex {R : V → V → V → V → V → Prop} : ∀ {vs : List V}, arg5 R vs → ∃ a b c d e, vs = [a, b, c, d, e] ∧ R a b c d e
  | [a, b, c, d, e], h => ⟨a, b, c, d, e, rfl, h⟩
  | [], h => h.elim
  | [_], h => h.elim
  | [_, _], h => h.elim
  | [_, _, _], h => h.elim
  | [_, _, _, _], h => h.elim
  | _ :: _ :: _ :: _ :: _ :: _ :: _, h => h.elim
/-! ### heaps -/
theorem same_new {H : Hp} {p : Addr} {o : HO} (h : H p = none) : Same H (upd H p o) := fun b u e => by
  rw [upd_ne (ne_of_none e h)]
  exact e
theorem Wf.set {H : Hp} {p : Addr} {o : HO} (w : Wf H) (f : Flat o) (h : ∀ x, H p ≠ some (.own x)) : Wf (upd H p o) := fun a u e => by
  by_cases ha : a = p
  · subst ha
    rw [upd_same] at e
    cases e
    exact .inl f
  · rw [upd_ne ha] at e
    rcases w a u e with q | ⟨C, dx, fs, rfl, hd⟩
    · exact .inl q
    · refine .inr ⟨C, dx, fs, rfl, ?_⟩
      rw [upd_ne (fun z => h a (by rw [← z]; exact hd))]
      exact hd
theorem Wf.new {H : Hp} {p : Addr} {o : HO} (w : Wf H) (f : Flat o) (h : H p = none) : Wf (upd H p o) := w.set f fun x z => by rw [h] at z; cases z
theorem Wf.at {H : Hp} {p : Addr} {o u : HO} (w : Wf H) (f : Flat o) (h : H p = some u) (hu : ∀ x, u ≠ .own x) : Wf (upd H p o) := w.set f fun x z => by
  rw [h] at z
  exact hu x (Option.some.inj z)
theorem bQ.same {H H' : Hp} {Q : VK} {v : V} (w : Wf H) (s : Same H H') (q : Q v H) : bQ H Q v H' := ⟨H, ⟨s, fun a o e => by rw [e, s a o e], w⟩, q⟩
/-! ### a list of two numbers from which digits are drawn -/
def stL (p q : Int) : HO := .lst [.int p, .int q]
/-- it stands at a, its first number not below nought -/
def St2 (H : Hp) (a : Addr) : Prop := ∃ p q, H a = some (stL p q) ∧ 0 ≤ p
/-- all but it is as it was -/
structure Dr (a : Addr) (H H' : Hp) : Prop where
  kp : ∀ b o, b ≠ a → H b = some o → H' b = some o
  st : St2 H' a
  wf : Wf H'
theorem Dr.refl {a : Addr} {H : Hp} (s : St2 H a) (w : Wf H) : Dr a H H := ⟨fun _ _ _ h => h, s, w⟩
theorem Dr.trans {a : Addr} {H H1 H2 : Hp} (x : Dr a H H1) (y : Dr a H1 H2) : Dr a H H2 := ⟨fun b o n e => y.kp b o n (x.kp b o n e), y.st, y.wf⟩
theorem Dr.drawn {a : Addr} {H H1 : Hp} {p q : Int} (x : Dr a H H1) (h : 0 ≤ p) : Dr a H (upd H1 a (stL p q)) := by
  obtain ⟨p0, q0, e, _⟩ := x.st
  refine ⟨fun b o n e => ?_, ⟨p, q, upd_same, h⟩, x.wf.at trivial e fun x z => by cases z⟩
  rw [upd_ne n]
  exact x.kp b o n e
theorem Dr.new {a p : Addr} {o : HO} {H H1 : Hp} (x : Dr a H H1) (h : H1 p = none) (f : Flat o) : Dr a H (upd H1 p o) := by
  obtain ⟨p0, q0, e, h0⟩ := x.st
  refine ⟨fun b u n e => ?_, ⟨p0, q0, ?_, h0⟩, x.wf.new f h⟩
  · have q := x.kp b u n e
    rw [upd_ne (ne_of_none q h)]
    exact q
  · rw [upd_ne (ne_of_none e h)]
    exact e
theorem Dr.done {a : Addr} {H H' : Hp} {Q : VK} {v : V} (x : Dr a H H') (w : Wf H) (s : St2 H a) (q : ∀ p q, 0 ≤ p → Q v (upd H a (stL p q))) : bQ H Q v H' := by
  obtain ⟨p, q0, e, h⟩ := x.st
  obtain ⟨p1, q1, e1, _⟩ := s
  refine ⟨upd H a (stL p q0), ⟨fun b o z => ?_, fun b o z => ?_, w.at trivial e1 fun x z => by cases z⟩, q p q0 h⟩
  · by_cases hb : b = a
    · subst hb
      rw [upd_same] at z
      rw [e, z]
    · rw [upd_ne hb] at z
      exact x.kp b o hb z
  · by_cases hb : b = a
    · subst hb
      rw [upd_same, e]
    · rw [upd_ne hb, z, x.kp b o hb z]
theorem Dr.at {a b : Addr} {o : HO} {H H' : Hp} (x : Dr a H H') (h : H b = some o) (n : ∀ p q, o ≠ stL p q) (s : St2 H a) : H' b = some o := by
  obtain ⟨p, q, e, _⟩ := s
  exact x.kp b o (fun z => by subst z; rw [h] at e; exact n p q (Option.some.inj e)) h
/-- a place in a list, a text -/
theorem at_lt {α : Type} {xs : List α} {i : Int} (h0 : 0 ≤ i) (h1 : i < xs.length) : ∃ v, atI xs i = some v ∧ v ∈ xs := by
  obtain ⟨j, rfl⟩ : ∃ j : Nat, i = j := ⟨i.toNat, by omega⟩
  have hj : j < xs.length := by omega
  exact ⟨xs[j], atI_nat (List.getElem?_eq_getElem hj), List.getElem_mem hj⟩
theorem line_of {n : Nat} (h : n ≤ 16777216) : n ≤ sizeLine := by rw [sizeLine_eq]; exact h
theorem line_lt {n : Nat} (h : n < 16777216) : n < sizeLine := by rw [sizeLine_eq]; exact h
/-! ### types of values -/
def Known (K : PySem.W.Frag) (H : Hp) (v : V) : Prop := match v with
  | .non => True
  | .bl _ => True
  | .int _ => True
  | .str _ => True
  | .ref p => (∃ xs, H p = some (.lst xs)) ∨ (∃ xs, H p = some (.tup xs)) ∨ ∃ kvs, H p = some (.dK kvs)
  | _ => False
def isStr : V → Bool | .str _ => true | _ => false
def isInt : V → Bool | .int _ => true | .bl _ => true | _ => false
def isBl : V → Bool | .bl _ => true | _ => false
section
variable {K : PySem.W.Frag} {H : Hp}
theorem isi_ty {x : V} {n m : String} {b : Bool} (h : TyX K H x (.type n)) (e : kitB n m = some b) : IsiV K H x m b := ⟨_, h, kit_ty e⟩
theorem isi_str : ∀ {v : V}, Known K H v → IsiV K H v "str" (isStr v)
  | .non, _ => isi_ty (b := false) (.base .non) (by decide +kernel)
  | .bl _, _ => isi_ty (b := false) (.base (.bl _)) (by decide +kernel)
  | .int _, _ => isi_ty (b := false) (.base (.int _)) (by decide +kernel)
  | .str _, _ => isi_ty (b := true) (.base (.str _)) (by decide +kernel)
  | .ref _, .inl ⟨_, h⟩ => isi_ty (b := false) (.base (.lst h)) (by decide +kernel)
  | .ref _, .inr (.inl ⟨_, h⟩) => isi_ty (b := false) (.base (.tup h)) (by decide +kernel)
  | .ref _, .inr (.inr ⟨_, h⟩) => isi_ty (b := false) (.base (.dK h)) (by decide +kernel)
theorem isi_int : ∀ {v : V}, Known K H v → IsiV K H v "int" (isInt v)
  | .non, _ => isi_ty (b := false) (.base .non) (by decide +kernel)
  | .bl _, _ => isi_ty (b := true) (.base (.bl _)) (by decide +kernel)
  | .int _, _ => isi_ty (b := true) (.base (.int _)) (by decide +kernel)
  | .str _, _ => isi_ty (b := false) (.base (.str _)) (by decide +kernel)
  | .ref _, .inl ⟨_, h⟩ => isi_ty (b := false) (.base (.lst h)) (by decide +kernel)
  | .ref _, .inr (.inl ⟨_, h⟩) => isi_ty (b := false) (.base (.tup h)) (by decide +kernel)
  | .ref _, .inr (.inr ⟨_, h⟩) => isi_ty (b := false) (.base (.dK h)) (by decide +kernel)
theorem isi_bool : ∀ {v : V}, Known K H v → IsiV K H v "bool" (isBl v)
  | .non, _ => isi_ty (b := false) (.base .non) (by decide +kernel)
  | .bl _, _ => isi_ty (b := true) (.base (.bl _)) (by decide +kernel)
  | .int _, _ => isi_ty (b := false) (.base (.int _)) (by decide +kernel)
  | .str _, _ => isi_ty (b := false) (.base (.str _)) (by decide +kernel)
  | .ref _, .inl ⟨_, h⟩ => isi_ty (b := false) (.base (.lst h)) (by decide +kernel)
  | .ref _, .inr (.inl ⟨_, h⟩) => isi_ty (b := false) (.base (.tup h)) (by decide +kernel)
  | .ref _, .inr (.inr ⟨_, h⟩) => isi_ty (b := false) (.base (.dK h)) (by decide +kernel)
end
end R
namespace R
open PySem PySem.Spec PyProof.Rows L2
theorem iteP {p : Prop} [Decidable p] {A B : Prop} (h : p) (a : A) : if decide p = true then A else B := by
  rw [if_pos (decide_eq_true h)]
  exact a
theorem iteN {p : Prop} [Decidable p] {A B : Prop} (h : ¬ p) (b : B) : if decide p = true then A else B := by
  rw [if_neg (by rw [decide_eq_false h]; exact Bool.false_ne_true)]
  exact b
theorem iteC {p : Prop} [Decidable p] {A B : Prop} (a : p → A) (b : ¬ p → B) : if decide p = true then A else B := by
  by_cases h : p
  · exact iteP h (a h)
  · exact iteN h (b h)
/-- a comprehension without tests whose element changes nothing -/
theorem lc_map {J : It} {n : Nat} {G : Hp → Prop} {Y : Nat → Hp → V → Hp → Prop} (w : Walk J n G Y) (It' : Nat → V → Prop) (hy : ∀ i H x H', Y i H x H' → H' = H ∧ It' i x) (f : Nat → V) {g : TG} {te : TE} {vs : List Nat} {σ : L2.St} {H1 : Hp} {D : Addr} {Qd : Hp → Prop}
    (hn : n < sizeLine) (hG : ∀ o, G (upd H1 D o))
    (hs : ∀ (i : Nat) (x : V) (acc : List V) (C : V → Hp → Prop), i < n → It' i x → C (f i) (upd H1 D (.lst acc)) → g x (wipe σ vs) (upd H1 D (.lst acc)) fun σ2 H2 => wipe σ2 vs = wipe σ vs ∧ te σ2 H2 C)
    (hd : Qd (upd H1 D (.lst ((List.range n).map f)))) :
    ∃ W : Nat → Nat → Hp → Prop, (∃ m, W 0 m (upd H1 D (.lst []))) ∧ ∀ i m H, W i m H →
      (J.stop i H ∧ Qd H) ∨ (J.go i H ∧ ∃ Nx : Hp → Prop, (∀ H', Nx H' → ∃ m', m' < m ∧ W (i + 1) m' H') ∧ ∀ x H', J.yld i H x H' → g x (wipe σ vs) H' fun σ2 H2 => wipe σ2 vs = wipe σ vs ∧ tYes σ2 H2 fun b H3 =>
        if b = true then te σ2 H3 fun y H4 => ∃ acc, H4 D = some (.lst acc) ∧ acc.length < sizeLine ∧ Nx (upd H4 D (.lst (acc ++ [y]))) else Nx H3) := by
  refine ⟨fun i m H => m = n - i ∧ i ≤ n ∧ H = upd H1 D (.lst ((List.range i).map f)), ⟨n, by simp, Nat.zero_le _, rfl⟩, ?_⟩
  rintro i m H ⟨rfl, hi, rfl⟩
  by_cases hlt : i < n
  · refine .inr ⟨w.goes i _ hlt (hG _), fun H' => H' = upd H1 D (.lst ((List.range (i + 1)).map f)), fun H' e => ⟨n - (i + 1), by omega, rfl, hlt, e⟩, fun x H' y => ?_⟩
    obtain ⟨rfl, hx⟩ := hy _ _ _ _ (w.yields i _ x H' hlt (hG _) y)
    refine hs i x _ (fun y H4 => ∃ acc, H4 D = some (.lst acc) ∧ acc.length < sizeLine ∧ upd H4 D (.lst (acc ++ [y])) = upd H1 D (.lst ((List.range (i + 1)).map f))) hlt hx ⟨_, upd_same, ?_, ?_⟩
    · rw [List.length_map, List.length_range]
      exact Nat.lt_trans hlt hn
    · rw [upd_upd, List.range_succ, List.map_append]
      rfl
  · have e : i = n := by omega
    subst e
    exact .inl ⟨w.stops _ (hG _), hd⟩
theorem range_getD {α β : Type} (l : List α) (d : α) (f : α → β) : (List.range l.length).map (fun i => f (l.getD i d)) = l.map f := by
  apply List.ext_getElem
  · simp
  · intro i h1 h2
    simp at h1 h2 ⊢
    simp [List.getElem?_eq_getElem h1]
end R
namespace R
theorem iteB {c : Bool} {A B : Prop} (a : c = true → A) (b : c = false → B) : if c = true then A else B := by
  cases c with
  | true => rw [if_pos rfl]; exact a rfl
  | false => rw [if_neg Bool.false_ne_true]; exact b rfl
theorem nd_t {p : Prop} [Decidable p] (h : (!decide p) = true) : ¬ p := by simpa using h
theorem nd_f {p : Prop} [Decidable p] (h : (!decide p) = false) : p := by simpa using h
end R
namespace R
open PySem PySem.Spec PyProof.Rows L2
/-- a comprehension with tests whose parts change nothing -/
theorem lc_filt {J : It} {n : Nat} {G : Hp → Prop} {Y : Nat → Hp → V → Hp → Prop} (w : Walk J n G Y) (It' : Nat → V → Prop) (hy : ∀ i H x H', Y i H x H' → H' = H ∧ It' i x) (f : Nat → V) (p : Nat → Bool) {g : TG} {tt : TT} {te : TE} {vs : List Nat} {σ : L2.St} {H1 : Hp} {D : Addr} {Qd : Hp → Prop}
    (hn : n < sizeLine) (hG : ∀ o, G (upd H1 D o))
    (hs : ∀ (i : Nat) (x : V) (acc : List V) (C : V → Hp → Prop) (Cn : Hp → Prop), i < n → It' i x → (p i = true → C (f i) (upd H1 D (.lst acc))) → (p i = false → Cn (upd H1 D (.lst acc))) →
      g x (wipe σ vs) (upd H1 D (.lst acc)) fun σ2 H2 => wipe σ2 vs = wipe σ vs ∧ tt σ2 H2 fun b H3 => if b = true then te σ2 H3 C else Cn H3)
    (hd : Qd (upd H1 D (.lst (((List.range n).filter p).map f)))) :
    ∃ W : Nat → Nat → Hp → Prop, (∃ m, W 0 m (upd H1 D (.lst []))) ∧ ∀ i m H, W i m H →
      (J.stop i H ∧ Qd H) ∨ (J.go i H ∧ ∃ Nx : Hp → Prop, (∀ H', Nx H' → ∃ m', m' < m ∧ W (i + 1) m' H') ∧ ∀ x H', J.yld i H x H' → g x (wipe σ vs) H' fun σ2 H2 => wipe σ2 vs = wipe σ vs ∧ tt σ2 H2 fun b H3 =>
        if b = true then te σ2 H3 fun y H4 => ∃ acc, H4 D = some (.lst acc) ∧ acc.length < sizeLine ∧ Nx (upd H4 D (.lst (acc ++ [y]))) else Nx H3) := by
  refine ⟨fun i m H => m = n - i ∧ i ≤ n ∧ H = upd H1 D (.lst (((List.range i).filter p).map f)), ⟨n, by simp, Nat.zero_le _, rfl⟩, ?_⟩
  rintro i m H ⟨rfl, hi, rfl⟩
  by_cases hlt : i < n
  · refine .inr ⟨w.goes i _ hlt (hG _), fun H' => H' = upd H1 D (.lst (((List.range (i + 1)).filter p).map f)), fun H' e => ⟨n - (i + 1), by omega, rfl, hlt, e⟩, fun x H' y => ?_⟩
    obtain ⟨rfl, hx⟩ := hy _ _ _ _ (w.yields i _ x H' hlt (hG _) y)
    refine hs i x _ (fun y H4 => ∃ acc, H4 D = some (.lst acc) ∧ acc.length < sizeLine ∧ upd H4 D (.lst (acc ++ [y])) = upd H1 D (.lst (((List.range (i + 1)).filter p).map f))) _ hlt hx (fun hp => ⟨_, upd_same, ?_, ?_⟩) (fun hp => ?_)
    · rw [List.length_map]
      refine Nat.lt_of_le_of_lt (List.length_filter_le _ _) ?_
      rw [List.length_range]
      exact Nat.lt_trans hlt hn
    · rw [upd_upd, List.range_succ, List.filter_append, List.map_append, List.filter_cons_of_pos hp]
      rfl
    · rw [List.range_succ, List.filter_append, List.filter_cons_of_neg (by rw [hp]; exact Bool.false_ne_true)]
      simp
  · have e : i = n := by omega
    subst e
    exact .inl ⟨w.stops _ (hG _), hd⟩
theorem filt_getD {α β : Type} (l : List α) (d : α) (q : α → Bool) (f : α → β) : ((List.range l.length).filter fun i => q (l.getD i d)).map (fun i => f (l.getD i d)) = (l.filter q).map f := by
  have h : (List.range l.length).map (fun i => l.getD i d) = l := by
    have := range_getD l d id
    simpa using this
  have h2 : ((List.range l.length).filter fun i => q (l.getD i d)).map (fun i => l.getD i d) = l.filter q := by
    conv => rhs; rw [← h]
    rw [List.filter_map]
    rfl
  rw [← h2, List.map_map]
  rfl
theorem joinL_nil : ∀ ps : List (List Nat), TL.joinL [] ps = ps.flatten
  | [] => rfl
  | [p] => by simp [TL.joinL]
  | p :: q :: r => by
    show p ++ ([] ++ TL.joinL [] (q :: r)) = _
    rw [joinL_nil (q :: r)]
    rfl
theorem join_ones (cs : List Nat) : Txt.join (⟨#[]⟩ : Str) (cs.map fun c => (⟨#[c]⟩ : Str)) = ⟨cs.toArray⟩ := by
  have e : ∀ cs : List Nat, (cs.map fun c => [c]).flatten = cs := fun cs => by
    induction cs with
    | nil => rfl
    | cons c r ih =>
      rw [List.map_cons, List.flatten_cons, ih]
      rfl
  have h := SX.join_S [] (cs.map fun c => [c])
  rw [joinL_nil, List.map_map, e] at h
  exact h
theorem dp_strs {K : PySem.W.Frag} {H : Hp} : ∀ zs : List Str, DpAll K H (zs.map V.str) (zs.map PyData.str)
  | [] => .nil
  | z :: zs => .cons (.str z) (dp_strs zs)
theorem dp_ints {K : PySem.W.Frag} {H : Hp} : ∀ zs : List Int, DpAll K H (zs.map V.int) (zs.map PyData.int)
  | [] => .nil
  | z :: zs => .cons (.int z) (dp_ints zs)
end R
namespace R
open PySem PySem.Spec PyProof.Rows L2
theorem Dr.put {a D : Addr} {o u : HO} {H H1 : Hp} (x : Dr a H H1) (hD : H D = none) (e : H1 D = some u) (nu : ∀ x, u ≠ .own x) (f : Flat o) (n : D ≠ a) : Dr a H (upd H1 D o) := by
  obtain ⟨p0, q0, e0, h0⟩ := x.st
  refine ⟨fun b z nb eb => ?_, ⟨p0, q0, ?_, h0⟩, x.wf.at f e nu⟩
  · rw [upd_ne (ne_of_none eb hD)]
    exact x.kp b z nb eb
  · rw [upd_ne n.symm]
    exact e0
end R
namespace R
open PySem PySem.Spec PyProof.Rows L2
abbrev sOk (z : Str) : Prop := PyData.strOk z = true
theorem sOk_iff {z : Str} : sOk z ↔ ∀ c ∈ z.cps.toList, c < 0x110000 := by
  unfold sOk PyData.strOk
  rw [← Array.all_toList, List.all_eq_true]
  simp
theorem sOk_app {x y : Str} (h : sOk x) (g : sOk y) : sOk (x ++ y) := by
  rw [sOk_iff] at h g ⊢
  intro c hc
  have e := TL.tl_append x y
  have hc' : c ∈ TL.tl (x ++ y) := hc
  rw [e, List.mem_append] at hc'
  rcases hc' with q | q
  · exact h c q
  · exact g c q
theorem sOk_cut {z : Str} {lo hi : Option Int} (h : sOk z) : sOk (cutS z lo hi) := by
  rw [sOk_iff] at h ⊢
  intro c hc
  refine h c ?_
  have hc' : c ∈ (z.cps.toList.drop (HT.sIx z.length 0 lo)).take (HT.sIx z.length z.length hi - HT.sIx z.length 0 lo) := hc
  exact List.mem_of_mem_drop (List.mem_of_mem_take hc')
theorem sOk_list {cs : List Nat} (h : ∀ c ∈ cs, c < 0x110000) : sOk ⟨cs.toArray⟩ := sOk_iff.mpr (by simpa using h)
theorem sOk_one {c : Nat} (h : c < 0x110000) : sOk ⟨#[c]⟩ := sOk_list (cs := [c]) (by simpa using h)
theorem shape_strs {zs : List Str} (h : ∀ z ∈ zs, sOk z) : SeqAt.shaped (.list (zs.map .str)) = true := by
  have h1 : PyData.canLayAll0 (zs.map .str) = true := by
    induction zs with
    | nil => rfl
    | cons z r ih =>
      show (PyData.canLay0 (.str z) && PyData.canLayAll0 (r.map .str)) = true
      rw [ih fun y hy => h y (List.mem_cons_of_mem _ hy), Bool.and_true]
      exact h z List.mem_cons_self
  have h2 : PyData.depthAll (zs.map .str) = 0 := by
    clear h h1
    induction zs with
    | nil => rfl
    | cons z r ih =>
      show max 0 (PyData.depthAll (r.map .str)) = 0
      rw [ih]
      rfl
  unfold SeqAt.shaped
  show (PyData.canLayAll0 (zs.map .str) && decide (PyData.depthAll (zs.map .str) + 1 ≤ 64)) = true
  rw [h1, h2]
  rfl
/-- what behind a statement is wanted, told first -/
def sCut (t : TS) : TS := fun D σ H => ∃ P : L2.St → Hp → Prop, t { D with nx := P } σ H ∧ ∀ σ' H', P σ' H' → D.nx σ' H'
theorem ps_cut {X : Cx} {b : Stmt} {t : TS} (h : PS X b t) : PS X b (sCut t) := ⟨fun pins s σ H D I q => by
  obtain ⟨P, q1, q2⟩ := q
  refine thn (h.run pins s σ H _ I q1) fun f s1 z => ?_
  cases f with
  | next =>
    obtain ⟨σ', H', I', q⟩ := z
    exact ⟨σ', H', I', q2 _ _ q⟩
  | brk => exact z
  | cont => exact z
  | ret u => exact z⟩
/-- the same of a value -/
def eCut (t : TE) : TE := fun σ H Q => ∃ P : VK, t σ H P ∧ ∀ v H', P v H' → Q v H'
theorem pe_cut {X : Cx} {e : Expr} {t : TE} (h : PE X e t) : PE X e (eCut t) := ⟨fun pins s σ H Q I q => by
  obtain ⟨P, q1, q2⟩ := q
  exact thn (h.run pins s σ H _ I q1) fun u s1 ⟨v, H', I', r, q⟩ => ⟨v, H', I', r, q2 _ _ q⟩⟩
theorem wf_only {H : Hp} (h : Only H) : Wf H := fun a o e => by
  rcases h a with q | ⟨ob, xs, q⟩
  · rw [q] at e
    cases e
  · rw [q] at e
    cases e
    exact .inl trivial
theorem lt_one {c d : Nat} : (([c] : List Nat) < [d]) ↔ c < d := by
  rw [List.cons_lt_cons_iff]
  constructor
  · rintro (h | ⟨_, h⟩)
    · exact h
    · exact absurd h (List.lt_irrefl _)
  · exact .inl
end R
namespace W
open PySem PySem.Spec PyProof.Rows L2 R
def topS (i : Nat) : Stmt := PySem.Challenge.pw_rowlent_k01_names_and_moments.main.body.getD i (.Pass ⟨0, 0, 0, 0⟩)

structure Txt (K : PySem.W.Frag) (mg : Str → Option Value) : Prop where
  m_all : mg "all" = none
  m_isinstance : mg "isinstance" = none
  m_str : mg "str" = none
  m_len : mg "len" = none
  m_int : mg "int" = none
  m_bool : mg "bool" = none
  m_range : mg "range" = none
  m_min : mg "min" = none
  g_MOST_LETTERS : GlV mg "MOST_LETTERS" (.int 8)
  g_LETTERS : GlV mg "LETTERS" (.str "abcdefghijklmnopqrstuvwxyz")
  g_MOST_MOMENT : GlV mg "MOST_MOMENT" (.int 1000000000000)
  f_is_name : FnAt K mg "is_name" "is_name" (topS 4) ["thing"]
  f_is_whole : FnAt K mg "is_whole" "is_whole" (topS 5) ["thing", "low", "high"]
  f_is_moment : FnAt K mg "is_moment" "is_moment" (topS 6) ["thing"]
  f__law_cell_at : FnAt K mg "_law_cell_at" "_law_cell_at" (topS 8) ["_law_script", "_law_k"]
  f__law_state : FnAt K mg "_law_state" "_law_state" (topS 9) ["_law_cell", "_law_k"]
  f__law_mixed : FnAt K mg "_law_mixed" "_law_mixed" (topS 10) ["_law_number_here"]
  f__law_digit : FnAt K mg "_law_digit" "_law_digit" (topS 11) ["_law_state_here", "_law_base"]
  f__law_text : FnAt K mg "_law_text" "_law_text" (topS 12) ["_law_state_here"]
  f__law_number : FnAt K mg "_law_number" "_law_number" (topS 13) ["_law_state_here"]
  f__law_thing : FnAt K mg "_law_thing" "_law_thing" (topS 14) ["_law_state_here"]
  f__law_is_plain : FnAt K mg "_law_is_plain" "_law_is_plain" (topS 15) ["_law_thing_here"]
  f__law_is_right : FnAt K mg "_law_is_right" "_law_is_right" (topS 16) ["_law_told", "_law_due"]

abbrev lets : List Nat := ("abcdefghijklmnopqrstuvwxyz" : Str).cps.toList
def isNameB : V → Bool
  | .str z => decide (1 ≤ (z.length : Int)) && decide ((z.length : Int) ≤ 8) && z.cps.toList.all fun c => decide (c ∈ lets)
  | _ => false
def isWholeB : V → Int → Int → Bool
  | .int n, a, b => decide (a ≤ n) && decide (n ≤ b)
  | _, _, _ => false
def Short (v : V) : Prop := ∀ z, v = .str z → z.length ≤ 1000000 ∧ sOk z

abbrev s_is_name : Stmt := topS 4
abbrev N_is_name : List Str := ["thing", "sign"]
theorem sc_is_name : FnScope N_is_name ["thing"] (defScope s_is_name) := ⟨rfl, rfl, rfl, by decide +kernel, rfl, by decide +kernel, by decide +kernel⟩
def sp_is_name (K : PySem.W.Frag) : Sp := fun vs H Q E => arg1 (fun v => Known K H v ∧ Short v ∧ Wf H ∧ Q (.bl (isNameB v)) H) vs
theorem ok_is_name {P : Program} {w : World} {K : PySem.W.Frag} {mg : Str → Option Value} {base : Heap} (T : Txt K mg) : Ok P w K mg base 1 "is_name" ["thing"] (sp_is_name K) := by
  refine okF T.f_is_name sc_is_name (fun vs H Q E h => ?_) (fun f cdv A outer s H vs Q E hr h => ?_)
  · obtain ⟨v, rfl, h⟩ := arg1.ex h
    rfl
  · obtain ⟨v, rfl, h⟩ := arg1.ex h
    refine ⟨_, pss_cons (ps_if (PW.pt (pw_or (pt_not (pt_truthU (K := K) (pe_callB (callU_isi (K := K)) (by rfl) T.m_isinstance (by decide +kernel) (pa_cons (lv 0) (pa_cons (pe_ty "str" T.m_str) pa_nil))) (by intro _; rfl))) (pw_or1 (pt_not (pt_chainU opU_le opU_le pe_int (pe_callB (callU_len (K := K)) (by rfl) T.m_len (by decide +kernel) (pa_cons (lv 0) pa_nil)) (pe_g T.g_MOST_LETTERS))))))
      (pss_one (ps_ret pe_bl)) pss_nil)
      (pss_one (ps_ret (pe_callB (callU_all (K := K) rfl) (by rfl) T.m_all (by decide +kernel) (pa_cons (pe_lc (own := [("sign", 1)]) (g := gName 1) rfl sc_is_name.nd (pi_str (lv 0)) (blkOk_by (own := [("sign", 1)]) (N := N_is_name) (sc := defScope s_is_name) (by decide +kernel)) (fun _ _ _ _ _ => pg_name (i := 1) sc_is_name.nd rfl (.inl rfl)) (fun _ _ _ _ _ => pts_nil) (fun _ _ _ _ _ => pe_cmpR (opU_in (K := K) hr) (lv 1) (pe_g T.g_LETTERS) (by rfl))) pa_nil)))), ?_⟩
    obtain ⟨hk, hz, wf, k⟩ := h
    refine ⟨_, isi_str hk, ?_⟩
    cases v with
    | str z =>
      refine ⟨line_of (Nat.le_trans ((hz z rfl).1) (by decide)), ?_⟩
      refine iteC (p := 1 ≤ (z.length : Int)) (fun h1 => ?_) (fun h1 => ?_)
      · refine iteB (fun h2' => ?_) (fun h2' => ?_)
        · have h2 := nd_t h2'
          refine bQ.same wf (Same.refl _) ?_
          have e2 : isNameB (.str z) = false := by
            show (decide (1 ≤ (z.length : Int)) && decide ((z.length : Int) ≤ 8) && _) = _
            rw [decide_eq_false h2, Bool.and_false, Bool.false_and]
          rw [← e2]
          exact k
        · have h2 := nd_f h2'
          refine ⟨z, rfl, fun D nD => ?_⟩
          refine lc_map (walk_str (z := z)) (fun i x => ∃ c, z.cps[i]? = some c ∧ x = .str ⟨#[c]⟩) (fun i H x H' h => h) (fun i => .bl (decide (z.cps.toList.getD i 0 ∈ lets))) (line_lt (Nat.lt_of_le_of_lt ((hz z rfl).1) (by decide))) (fun _ => trivial) (fun i x acc C hi hx hC => ?_) ?_
          · obtain ⟨c, hc, rfl⟩ := hx
            have e : z.cps.toList.getD i 0 = c := by simp [hc]
            rw [e] at hC
            refine ⟨rfl, c, rfl, ?_⟩
            simpa using hC
          · refine ⟨(List.range z.cps.size).map fun i => decide (z.cps.toList.getD i 0 ∈ lets), .inl (.inl ?_), ?_⟩
            · rw [upd_same, List.map_map]
              rfl
            · refine bQ.same wf (same_new nD) ?_
              have e : ((List.range z.cps.size).map fun i => decide (z.cps.toList.getD i 0 ∈ lets)) = z.cps.toList.map fun c => decide (c ∈ lets) := by
                rw [← range_getD z.cps.toList 0 fun c => decide (c ∈ lets)]
                rfl
              rw [e]
              have e2 : isNameB (.str z) = (z.cps.toList.map fun c => decide (c ∈ lets)).all id := by
                show (decide (1 ≤ (z.length : Int)) && decide ((z.length : Int) ≤ 8) && _) = _
                rw [decide_eq_true h1, decide_eq_true h2, List.all_map]
                rfl
              rw [e2] at k
              exact k
      · refine bQ.same wf (Same.refl _) ?_
        have e2 : isNameB (.str z) = false := by
          show (decide (1 ≤ (z.length : Int)) && decide ((z.length : Int) ≤ 8) && _) = _
          rw [decide_eq_false h1, Bool.false_and, Bool.false_and]
        rw [← e2]
        exact k
    | non => exact bQ.same wf (Same.refl _) k
    | bl b => exact bQ.same wf (Same.refl _) k
    | int n => exact bQ.same wf (Same.refl _) k
    | ref p => exact bQ.same wf (Same.refl _) k
    | byt b => exact hk.elim
    | flt b => exact hk.elim
    | ty b => exact hk.elim

abbrev s_is_whole : Stmt := topS 5
abbrev N_is_whole : List Str := ["thing", "low", "high"]
theorem sc_is_whole : FnScope N_is_whole ["thing", "low", "high"] (defScope s_is_whole) := ⟨rfl, rfl, rfl, by decide +kernel, rfl, by decide +kernel, by decide +kernel⟩
def sp_is_whole (K : PySem.W.Frag) : Sp := fun vs H Q E => arg3 (fun v lo hi => ∃ a b, lo = .int a ∧ hi = .int b ∧ Known K H v ∧ Wf H ∧ Q (.bl (isWholeB v a b)) H) vs
theorem ok_is_whole {P : Program} {w : World} {K : PySem.W.Frag} {mg : Str → Option Value} {base : Heap} (T : Txt K mg) : Ok P w K mg base 1 "is_whole" ["thing", "low", "high"] (sp_is_whole K) := by
  refine okF T.f_is_whole sc_is_whole (fun vs H Q E h => ?_) (fun f cdv A outer s H vs Q E hr h => ?_)
  · obtain ⟨v, lo, hi, rfl, h⟩ := arg3.ex h
    rfl
  · obtain ⟨v, lo, hi, rfl, h⟩ := arg3.ex h
    refine ⟨_, pss_one (ps_ret (pe_andU (K := K) (pe_callB (callU_isi (K := K)) (by rfl) T.m_isinstance (by decide +kernel) (pa_cons (lv 0) (pa_cons (pe_ty "int" T.m_int) pa_nil))) (pe_andU (K := K) (pe_notU (K := K) (pe_callB (callU_isi (K := K)) (by rfl) T.m_isinstance (by decide +kernel) (pa_cons (lv 0) (pa_cons (pe_ty "bool" T.m_bool) pa_nil)))) (pe_one (pe_chainU opU_le opU_le (lv 1) (lv 0) (lv 2)))))), ?_⟩
    obtain ⟨a, b, rfl, rfl, hk, wf, k⟩ := h
    refine ⟨_, isi_int hk, ?_⟩
    cases v with
    | int n =>
      refine ⟨_, isi_bool hk, ?_⟩
      refine iteC (fun h1 => ?_) (fun h1 => ?_)
      · refine bQ.same wf (Same.refl _) ?_
        have e : isWholeB (.int n) a b = decide (n ≤ b) := by
          show (decide (a ≤ n) && decide (n ≤ b)) = _
          rw [decide_eq_true h1, Bool.true_and]
        rw [← e]
        exact k
      · refine bQ.same wf (Same.refl _) ?_
        have e : isWholeB (.int n) a b = false := by
          show (decide (a ≤ n) && decide (n ≤ b)) = _
          rw [decide_eq_false h1, Bool.false_and]
        rw [← e]
        exact k
    | bl c =>
      refine ⟨_, isi_bool hk, ?_⟩
      exact bQ.same wf (Same.refl _) k
    | str z => exact bQ.same wf (Same.refl _) k
    | non => exact bQ.same wf (Same.refl _) k
    | ref p => exact bQ.same wf (Same.refl _) k
    | byt b => exact hk.elim
    | flt b => exact hk.elim
    | ty b => exact hk.elim

abbrev s_is_moment : Stmt := topS 6
abbrev N_is_moment : List Str := ["thing"]
theorem sc_is_moment : FnScope N_is_moment ["thing"] (defScope s_is_moment) := ⟨rfl, rfl, rfl, by decide +kernel, rfl, by decide +kernel, by decide +kernel⟩
def sp_is_moment (K : PySem.W.Frag) : Sp := fun vs H Q E => arg1 (fun v => Known K H v ∧ Wf H ∧ Q (.bl (isWholeB v 0 1000000000000)) H) vs
theorem ok_is_moment {P : Program} {w : World} {K : PySem.W.Frag} {mg : Str → Option Value} {base : Heap} (T : Txt K mg) : Ok P w K mg base 2 "is_moment" ["thing"] (sp_is_moment K) := by
  refine okF T.f_is_moment sc_is_moment (fun vs H Q E h => ?_) (fun f cdv A outer s H vs Q E hr h => ?_)
  · obtain ⟨v, rfl, h⟩ := arg1.ex h
    rfl
  · obtain ⟨v, rfl, h⟩ := arg1.ex h
    refine ⟨_, pss_one (ps_ret (pe_f (ok_is_whole (K := K) T) hr passL (pa_cons (lv 0) (pa_cons pe_int (pa_cons (pe_g T.g_MOST_MOMENT) pa_nil))))), ?_⟩
    obtain ⟨hk, wf, k⟩ := h
    exact ⟨0, 1000000000000, rfl, rfl, hk, wf, bQ.same wf (Same.refl _) k⟩

def ScrL (K : PySem.W.Frag) (H : Hp) (v : V) (ns : List Int) : Prop := ∃ a, v = .ref a ∧ SqL K H a (ns.map V.int) ∧ ns.length ≤ 63
theorem mixed_b {r m : Int} (h : 0 < m) : 0 ≤ r % m ∧ r % m < m := ⟨Int.emod_nonneg _ (by omega), Int.emod_lt_of_pos _ h⟩
theorem mul_b {x y : Int} {a b : Nat} (hx0 : 0 ≤ x) (hx : x < 2 ^ a) (hy0 : 0 ≤ y) (hy : y < 2 ^ b) (h0 : 0 < a) (h1 : 0 < b) (h : a + b ≤ 1000000) : CMulW x y := by
  have e1 : (2 : Int) ^ a = ((2 ^ a : Nat) : Int) := by simp
  have e2 : (2 : Int) ^ b = ((2 ^ b : Nat) : Int) := by simp
  refine wide_mul (a := a) (b := b) ?_ ?_ h0 h1 h
  · omega
  · omega
theorem div_b {x j : Int} {b : Nat} (h : 0 < j) (hb : j.natAbs < 2 ^ b) (h0 : 0 < b) (h9 : b ≤ 9000) : CDivW x j := wide_div h hb h0 h9
/-- small enough for a digit -/
def Bas (b : Int) : Prop := 0 < b ∧ b.natAbs.log2 < 9000
theorem bas_lt {b : Int} (h : 0 < b) (h2 : b < 2 ^ 200) : Bas b := ⟨h, by
  have e : b.natAbs < 2 ^ 200 := by omega
  exact Nat.lt_trans (PySem.Flt.log2_lt_of (by decide) e) (by decide)⟩
theorem log_le {x y : Nat} (h : x ≤ y) : x.log2 ≤ y.log2 := by
  by_cases hx : x = 0
  · subst hx; simp
  · exact (Nat.le_log2 (by omega)).2 (Nat.le_trans (Nat.log2_self_le hx) h)

abbrev s__law_cell_at : Stmt := topS 8
abbrev N__law_cell_at : List Str := ["_law_script", "_law_k"]
theorem sc__law_cell_at : FnScope N__law_cell_at ["_law_script", "_law_k"] (defScope s__law_cell_at) := ⟨rfl, rfl, rfl, by decide +kernel, rfl, by decide +kernel, by decide +kernel⟩
def sp__law_cell_at (K : PySem.W.Frag) : Sp := fun vs H Q E => arg2 (fun s k => ∃ ns j, ScrL K H s ns ∧ k = .int j ∧ 0 ≤ j ∧ Wf H ∧ ∀ n, Q (.int n) H) vs
theorem ok__law_cell_at {P : Program} {w : World} {K : PySem.W.Frag} {mg : Str → Option Value} {base : Heap} (T : Txt K mg) : Ok P w K mg base 1 "_law_cell_at" ["_law_script", "_law_k"] (sp__law_cell_at K) := by
  refine okF T.f__law_cell_at sc__law_cell_at (fun vs H Q E h => ?_) (fun f cdv A outer s H vs Q E hr h => ?_)
  · obtain ⟨s, k, rfl, h⟩ := arg2.ex h
    rfl
  · obtain ⟨s, k, rfl, h⟩ := arg2.ex h
    refine ⟨_, pss_cons (ps_if (pt_cmpU opU_lt (lv 1) (pe_callB (callU_len (K := K)) (by rfl) T.m_len (by decide +kernel) (pa_cons (lv 0) pa_nil)) (nomark _))
      (pss_one (ps_ret (pe_ix (ixU (K := K)) (lv 0) (lv 1) (fun _ _ => rfl)))) pss_nil)
      (pss_one (ps_ret pe_int)), ?_⟩
    obtain ⟨ns, j, ⟨a, rfl, hS, hl⟩, rfl, hj, wf, k⟩ := h
    refine .inl ⟨_, .inl hS, ?_⟩
    refine iteC (fun h1 => ?_) (fun h1 => ?_)
    · obtain ⟨v, hv, hm⟩ := at_lt hj h1
      obtain ⟨n, _, rfl⟩ := List.mem_map.mp hm
      exact ⟨_, _, .inl hS, hv, bQ.same wf (Same.refl _) (k n)⟩
    · exact bQ.same wf (Same.refl _) (k 0)

abbrev s__law_state : Stmt := topS 9
abbrev N__law_state : List Str := ["_law_cell", "_law_k"]
theorem sc__law_state : FnScope N__law_state ["_law_cell", "_law_k"] (defScope s__law_state) := ⟨rfl, rfl, rfl, by decide +kernel, rfl, by decide +kernel, by decide +kernel⟩
def sp__law_state (K : PySem.W.Frag) : Sp := fun vs H Q E => arg2 (fun c k => ∃ n j, c = .int n ∧ k = .int j ∧ 0 ≤ j ∧ j < 100 ∧ Wf H ∧ ∀ p q a, H a = none → 0 ≤ p → Q (.ref a) (upd H a (stL p q))) vs
theorem ok__law_state {P : Program} {w : World} {K : PySem.W.Frag} {mg : Str → Option Value} {base : Heap} (T : Txt K mg) : Ok P w K mg base 1 "_law_state" ["_law_cell", "_law_k"] (sp__law_state K) := by
  refine okF T.f__law_state sc__law_state (fun vs H Q E h => ?_) (fun f cdv A outer s H vs Q E hr h => ?_)
  · obtain ⟨c, k, rfl, h⟩ := arg2.ex h
    rfl
  · obtain ⟨c, k, rfl, h⟩ := arg2.ex h
    refine ⟨_, pss_one (ps_ret (pe_lst (pa_cons (pe_op opU_mul (lv 0) (pe_callTy callU_int (by rfl) T.m_int (by decide +kernel) (pa_cons (pe_cmpR opU_ge (lv 0) (pe_op opU_pow pe_int pe_int) (nomark _)) pa_nil))) (pa_cons (pe_op (opU_add (K := K)) (pe_op opU_mod (lv 0) pe_int) (pe_op opU_mul pe_int (lv 1))) pa_nil)))), ?_⟩
    obtain ⟨n, j, rfl, rfl, h0, h1, wf, k⟩ := h
    refine ⟨⟨by decide, by decide, by decide⟩, ?_⟩
    refine ⟨.inl (.inr (by split <;> exact ⟨by decide, by decide⟩)), ?_⟩
    refine ⟨by decide, ?_⟩
    refine ⟨.inl (.inl ⟨by decide, by decide⟩), ?_⟩
    refine ⟨line_of (show 2 ≤ 16777216 by decide), fun a na => bQ.mk (wf.new trivial na) (k _ _ a na ?_)⟩
    split
    · rename_i e
      have e2 := of_decide_eq_true e
      have e3 : (10 : Int) ^ Int.toNat 18 = 1000000000000000000 := by decide
      omega
    · omega

abbrev s__law_mixed : Stmt := topS 10
abbrev N__law_mixed : List Str := ["_law_number_here"]
theorem sc__law_mixed : FnScope N__law_mixed ["_law_number_here"] (defScope s__law_mixed) := ⟨rfl, rfl, rfl, by decide +kernel, rfl, by decide +kernel, by decide +kernel⟩
def sp__law_mixed (K : PySem.W.Frag) : Sp := fun vs H Q E => arg1 (fun x => ∃ n, x = .int n ∧ Wf H ∧ ∀ r, 0 ≤ r → Q (.int r) H) vs
theorem ok__law_mixed {P : Program} {w : World} {K : PySem.W.Frag} {mg : Str → Option Value} {base : Heap} (T : Txt K mg) : Ok P w K mg base 1 "_law_mixed" ["_law_number_here"] (sp__law_mixed K) := by
  refine okF T.f__law_mixed sc__law_mixed (fun vs H Q E h => ?_) (fun f cdv A outer s H vs Q E hr h => ?_)
  · obtain ⟨x, rfl, h⟩ := arg1.ex h
    rfl
  · obtain ⟨x, rfl, h⟩ := arg1.ex h
    refine ⟨_, pss_cons (ps_set (i := 0) sc__law_mixed.nd rfl (.inl rfl) (pe_op opU_mod (pe_op opU_mul (pe_op (opU_add (K := K)) (pe_op opU_mod (lv 0) pe_int) pe_int) pe_int) pe_int))
      (pss_cons (ps_set (i := 0) sc__law_mixed.nd rfl (.inl rfl) (pe_op opU_mod (pe_op opU_mul (lv 0) (pe_op (opU_add (K := K)) (pe_op opU_div (lv 0) pe_int) pe_int)) pe_int))
      (pss_one (ps_ret (pe_op opU_mod (pe_op opU_mul (pe_op (opU_add (K := K)) (lv 0) pe_int) (pe_op (opU_add (K := K)) (pe_op opU_div (lv 0) pe_int) pe_int)) pe_int)))), ?_⟩
    obtain ⟨n, rfl, wf, k⟩ := h
    have b1 := @mixed_b n 2147483647 (by decide)
    refine ⟨by decide, ?_⟩
    refine ⟨.inr <| mul_b (a := 32) (b := 16) (by omega) (by omega) (by decide) (by decide) (by decide) (by decide) (by decide), ?_⟩
    refine ⟨by decide, ?_⟩
    generalize hx : (n % 2147483647 + 1) * 48271 % 2147483647 = x
    have b2 : 0 ≤ x ∧ x < 2147483647 := by rw [← hx]; exact mixed_b (by decide)
    refine ⟨div_b (b := 10) (by decide) (by decide) (by decide) (by decide), ?_⟩
    refine ⟨.inr <| mul_b (a := 31) (b := 32) (by omega) (by omega) (by omega) (by omega) (by decide) (by decide) (by decide), ?_⟩
    refine ⟨by decide, ?_⟩
    generalize hy : x * (x / 1009 + 69621) % 2147483647 = y
    have b3 : 0 ≤ y ∧ y < 2147483647 := by rw [← hy]; exact mixed_b (by decide)
    refine ⟨div_b (b := 10) (by decide) (by decide) (by decide) (by decide), ?_⟩
    refine ⟨.inr <| mul_b (a := 32) (b := 32) (by omega) (by omega) (by omega) (by omega) (by decide) (by decide) (by decide), ?_⟩
    refine ⟨by decide, ?_⟩
    exact bQ.same wf (Same.refl _) (k _ (mixed_b (by decide)).1)

abbrev s__law_digit : Stmt := topS 11
abbrev N__law_digit : List Str := ["_law_state_here", "_law_base", "_law_found"]
theorem sc__law_digit : FnScope N__law_digit ["_law_state_here", "_law_base"] (defScope s__law_digit) := ⟨rfl, rfl, rfl, by decide +kernel, rfl, by decide +kernel, by decide +kernel⟩
def sp__law_digit (K : PySem.W.Frag) : Sp := fun vs H Q E => arg2 (fun s b => ∃ a m, s = .ref a ∧ b = .int m ∧ St2 H a ∧ Bas m ∧ Wf H ∧ ∀ r p q, 0 ≤ r → r < m → 0 ≤ p → Q (.int r) (upd H a (stL p q))) vs
theorem ok__law_digit {P : Program} {w : World} {K : PySem.W.Frag} {mg : Str → Option Value} {base : Heap} (T : Txt K mg) : Ok P w K mg base 2 "_law_digit" ["_law_state_here", "_law_base"] (sp__law_digit K) := by
  refine okF T.f__law_digit sc__law_digit (fun vs H Q E h => ?_) (fun f cdv A outer s H vs Q E hr h => ?_)
  · obtain ⟨s, b, rfl, h⟩ := arg2.ex h
    rfl
  · obtain ⟨s, b, rfl, h⟩ := arg2.ex h
    refine ⟨_, pss_cons (ps_if (pt_cmpU opU_gt (pe_ix (ixU (K := K)) (lv 0) pe_int (fun _ _ => rfl)) pe_int (nomark _))
      (pss_cons (ps_set (i := 2) sc__law_digit.nd rfl (.inl rfl) (pe_op opU_mod (pe_ix (ixU (K := K)) (lv 0) pe_int (fun _ _ => rfl)) (lv 1)))
      (pss_cons (ps_asg (pe_op opU_div (pe_ix (ixU (K := K)) (lv 0) pe_int (fun _ _ => rfl)) (lv 1)) (pg_sub (lv 0) pe_int setU))
      (pss_one (ps_ret (lv 2))))) pss_nil)
      (pss_cons (ps_asg (pe_f (ok__law_mixed (K := K) T) hr passL (pa_cons (pe_op (opU_add (K := K)) (pe_ix (ixU (K := K)) (lv 0) pe_int (fun _ _ => rfl)) pe_int) pa_nil)) (pg_sub (lv 0) pe_int setU))
      (pss_one (ps_ret (pe_op opU_mod (pe_op opU_div (pe_ix (ixU (K := K)) (lv 0) pe_int (fun _ _ => rfl)) pe_int) (lv 1))))), ?_⟩
    obtain ⟨a, m, rfl, rfl, ⟨p, q, e, hp⟩, ⟨hm, hb⟩, wf, k⟩ := h
    have s1 : ∀ {H : Hp} {p q : Int}, H a = some (stL p q) → SqL K H a [.int p, .int q] := fun h => .inl (.inl h)
    have g0 : ∀ {p q : Int}, atI [V.int p, V.int q] 0 = some (.int p) := fun {p q} => rfl
    have g1 : ∀ {p q : Int}, atI [V.int p, V.int q] 1 = some (.int q) := fun {p q} => rfl
    refine ⟨_, _, .inl (s1 e), g0, ?_⟩
    refine iteC (fun h1 => ?_) (fun h1 => ?_)
    · refine ⟨_, _, .inl (s1 e), g0, hm, ?_⟩
      refine ⟨_, _, .inl (s1 e), g0, ⟨hm, hb⟩, ?_⟩
      refine ⟨_, 0, e, rfl, ?_⟩
      exact bQ.mk (wf.at trivial e fun x z => by cases z) (k _ _ _ (mixed_b hm).1 (mixed_b hm).2 (Int.ediv_nonneg hp (by omega)))
    · refine ⟨_, _, .inl (s1 e), g1, ?_⟩
      refine ⟨_, rfl, wf, fun r hr => ?_⟩
      refine ⟨_, 1, e, rfl, ?_⟩
      have e1 : (upd H a (stL p r)) a = some (stL p r) := upd_same
      refine ⟨_, _, .inl (s1 e1), g1, div_b (b := 8) (by decide) (by decide) (by decide) (by decide), hm, ?_⟩
      exact bQ.mk (wf.at trivial e fun x z => by cases z) (k _ _ _ (mixed_b hm).1 (mixed_b hm).2 hp)

theorem lets_ok : ∀ c ∈ lets, c < 0x110000 := by decide +kernel
abbrev signs : Str := PySem.Str.ofString " !\"#$&'()*+,-./0123456789:;<=>?@ABCDEFGHIJKLMNOPQRSTUVWXYZ[\\]^_`{|}~\n" ++ PySem.Str.ofString "abcdefghijklmnopqrstuvwxyz"
theorem signs_ok : ∀ c ∈ signs.cps.toList, c < 0x110000 := by decide +kernel

abbrev s__law_text : Stmt := topS 12
abbrev N__law_text : List Str := ["_law_state_here", "_law_letters", "_law_spoilt", "_law_text_here", "_law_signs", "_law_sign", "_law_at", "_law_k"]
theorem sc__law_text : FnScope N__law_text ["_law_state_here"] (defScope s__law_text) := ⟨rfl, rfl, rfl, by decide +kernel, rfl, by decide +kernel, by decide +kernel⟩
def sp__law_text (K : PySem.W.Frag) : Sp := fun vs H Q E => arg1 (fun s => ∃ a, s = .ref a ∧ St2 H a ∧ Wf H ∧ ∀ z p q, z.length ≤ 1000000 → sOk z → 0 ≤ p → Q (.str z) (upd H a (stL p q))) vs
theorem ok__law_text {P : Program} {w : World} {K : PySem.W.Frag} {mg : Str → Option Value} {base : Heap} (T : Txt K mg) : Ok P w K mg base 3 "_law_text" ["_law_state_here"] (sp__law_text K) := by
  refine okF T.f__law_text sc__law_text (fun vs H Q E h => ?_) (fun f cdv A outer s H vs Q E hr h => ?_)
  · obtain ⟨s, rfl, h⟩ := arg1.ex h
    rfl
  · obtain ⟨s, rfl, h⟩ := arg1.ex h
    refine ⟨_, pss_cons (ps_set (i := 1) sc__law_text.nd rfl (.inr rfl) pe_str)
      (pss_cons (ps_set (i := 2) sc__law_text.nd rfl (.inl rfl) (pe_f (ok__law_digit (K := K) T) hr passL (pa_cons (lv 0) (pa_cons pe_int pa_nil))))
      (pss_cons (ps_set (i := 3) sc__law_text.nd rfl (.inl rfl) (pe_join pe_str (pe_lc (own := [("_law_k", 7)]) (g := gName 7) rfl sc__law_text.nd (pi_range1 (by rfl) T.m_range (pa_cons (pe_f (ok__law_digit (K := K) T) hr passL (pa_cons (lv 0) (pa_cons pe_int pa_nil))) pa_nil)) (blkOk_by (own := [("_law_k", 7)]) (N := N__law_text) (sc := defScope s__law_text) (by decide +kernel)) (fun _ _ _ _ _ => pg_name (i := 7) sc__law_text.nd rfl (.inl rfl)) (fun _ _ _ _ _ => pts_nil) (fun _ _ _ _ _ => pe_ix (ixU (K := K)) (lv 1) (pe_f (ok__law_digit (K := K) T) hr passL (pa_cons (lv 0) (pa_cons pe_int pa_nil))) (fun _ _ => rfl)))))
      (pss_cons (ps_set (i := 4) sc__law_text.nd rfl (.inl rfl) (pe_op (opU_add (K := K)) pe_str (lv 1)))
      (pss_cons (ps_set (i := 5) sc__law_text.nd rfl (.inl rfl) (pe_ix (ixU (K := K)) (lv 4) (pe_f (ok__law_digit (K := K) T) hr passL (pa_cons (lv 0) (pa_cons (pe_callB (callU_len (K := K)) (by rfl) T.m_len (by decide +kernel) (pa_cons (lv 4) pa_nil)) pa_nil))) (fun _ _ => rfl)))
      (pss_cons (ps_set (i := 6) sc__law_text.nd rfl (.inl rfl) (pe_f (ok__law_digit (K := K) T) hr passL (pa_cons (lv 0) (pa_cons (pe_op (opU_add (K := K)) (pe_callB (callU_len (K := K)) (by rfl) T.m_len (by decide +kernel) (pa_cons (lv 3) pa_nil)) pe_int) pa_nil))))
      (pss_one (ps_ret (pe_ix (ixU (K := K)) (pe_lst (pa_cons (lv 3) (pa_cons (lv 3) (pa_cons (pe_op (opU_add (K := K)) (pe_op (opU_add (K := K)) (pe_slice (slU (K := K)) (lv 3) po_none (po_someU (lv 6))) (lv 5)) (pe_slice (slU (K := K)) (lv 3) (po_someU (lv 6)) po_none)) (pa_cons (pe_op (opU_add (K := K)) (pe_op (opU_add (K := K)) (pe_slice (slU (K := K)) (lv 3) po_none (po_someU (lv 6))) (lv 5)) (pe_slice (slU (K := K)) (lv 3) (po_someU (pe_op (opU_add (K := K)) (lv 6) pe_int)) po_none)) pa_nil))))) (lv 2) (fun _ _ => rfl))))))))), ?_⟩
    obtain ⟨a, rfl, s0, wf, k⟩ := h
    have d0 := Dr.refl s0 wf
    refine ⟨a, 4, rfl, rfl, s0, bas_lt (by decide) (by decide), wf, fun r1 p1 q1 g1 l1 n1 => ?_⟩
    have d1 := d0.drawn (q := q1) n1
    generalize upd H a (stL p1 q1) = H1 at d1 ⊢
    refine ⟨⟨_, rfl⟩, ?_⟩
    refine ⟨a, 10, rfl, rfl, d1.st, bas_lt (by decide) (by decide), d1.wf, fun r2 p2 q2 g2 l2 n2 => ?_⟩
    have d2 := d1.drawn (q := q2) n2
    generalize upd H1 a (stL p2 q2) = H2 at d2 ⊢
    refine ⟨_, rfl, by omega, by omega, fun D nD => ?_⟩
    have nDa : D ≠ a := fun e => by
      obtain ⟨_, _, e1, _⟩ := d2.st
      rw [← e, nD] at e1
      cases e1
    refine lc_range (lo := 0) (n := r2.toNat) (fun i H' => ∃ cs : List Nat, Dr a H2 H' ∧ H' D = some (.lst (cs.map fun c => V.str ⟨#[c]⟩)) ∧ cs.length = i ∧ ∀ c ∈ cs, c < 0x110000) ⟨[], (Dr.refl d2.st d2.wf).new nD trivial, upd_same, rfl, by simp⟩ (fun i H' hi hp => ?_) (fun H' hp => ?_)
    · obtain ⟨cs, d, eD, hl, hcs⟩ := hp
      refine ⟨rfl, ?_⟩
      refine ⟨a, 26, rfl, rfl, d.st, bas_lt (by decide) (by decide), d.wf, fun r p q g l n => ?_⟩
      obtain ⟨c, hc, hcm⟩ := at_lt (xs := lets) g (by exact l)
      refine ⟨line_of (show 26 ≤ 16777216 by decide), c, hc, _, (upd_ne nDa).trans eD, line_lt ?_, cs ++ [c], ?_, ?_, ?_, ?_⟩
      · rw [List.length_map]
        omega
      · exact (d.drawn (q := q) n).put nD ((upd_ne nDa).trans eD) (fun _ z => by cases z) trivial nDa
      · rw [upd_same, List.map_append]
        rfl
      · rw [List.length_append, hl]
        rfl
      · intro x hx
        rcases List.mem_append.mp hx with h | h
        · exact hcs x h
        · rw [List.mem_singleton.mp h]
          exact lets_ok c hcm
    · obtain ⟨cs, d, eD, hl, hcs⟩ := hp
      have d3 := d2.trans d
      refine ⟨_, D, cs.map fun c => ⟨#[c]⟩, rfl, rfl, .inl (.inl (.inl ?_)), ?_, ?_⟩
      · rw [eD, List.map_map]
        rfl
      · have e1 : ((cs.map fun c => (⟨#[c]⟩ : Str)).map (·.length)).sum = cs.length := by
          clear eD hl hcs
          induction cs with
          | nil => rfl
          | cons c r ih =>
            rw [List.map_cons, List.map_cons, List.sum_cons, ih, List.length_cons]
            exact Nat.add_comm 1 _
        rw [e1, List.length_map]
        show cs.length + cs.length * 0 ≤ 16777216
        omega
      · have e2 : Txt.join (PySem.Str.ofString "") (cs.map fun c => (⟨#[c]⟩ : Str)) = ⟨cs.toArray⟩ := join_ones cs
        rw [e2]
        have ht : (⟨cs.toArray⟩ : Str).length ≤ 10 := by
          show cs.toArray.size ≤ 10
          rw [List.size_toArray]
          omega
        have hto : sOk ⟨cs.toArray⟩ := sOk_list hcs
        generalize (⟨cs.toArray⟩ : Str) = t at ht hto ⊢
        -- the signs
        refine ⟨line_of (by decide +kernel), ?_⟩
        refine ⟨line_of (by decide +kernel), a, _, rfl, rfl, d3.st, bas_lt (by decide +kernel) (by decide +kernel), d3.wf, fun r4 p4 q4 g4 l4 n4 => ?_⟩
        have d4 := d3.drawn (q := q4) n4
        generalize upd H' a (stL p4 q4) = H4 at d4 ⊢
        obtain ⟨c, hc, hcm⟩ := at_lt g4 (by exact l4)
        have hco : sOk ⟨#[c]⟩ := sOk_one (signs_ok c hcm)
        refine ⟨line_of (by decide +kernel), c, hc, ?_⟩
        refine ⟨line_of (Nat.le_trans ht (by decide)), a, _, rfl, rfl, d4.st, bas_lt (by omega) (by omega), d4.wf, fun r5 p5 q5 g5 l5 n5 => ?_⟩
        have d5 := d4.drawn (q := q5) n5
        generalize upd H4 a (stL p5 q5) = H5 at d5 ⊢
        have lt := line_of (Nat.le_trans ht (by decide))
        have c1 : ∀ lo hi, (cutS t lo hi).length ≤ 10 := fun lo hi => Nat.le_trans (cutS_length t lo hi) ht
        have lc : ((⟨#[c]⟩ : Str)).length = 1 := rfl
        have la : ∀ x y : Str, (x ++ y).length = x.length + y.length := fun x y => Str.length_append x y
        refine ⟨lt, line_of ?_, lt, line_of ?_, lt, line_of ?_, lt, line_of ?_, line_of (show 4 ≤ 16777216 by decide), fun l nl => ?_⟩
        · have := c1 none (some r5)
          omega
        · have := c1 none (some r5)
          have := c1 (some r5) none
          rw [la]
          omega
        · have := c1 none (some r5)
          omega
        · have := c1 none (some r5)
          have := c1 (some (r5 + 1)) none
          rw [la]
          omega
        · obtain ⟨v, hv, hm⟩ := at_lt (xs := [V.str t, V.str t, V.str (cutS t none (some r5) ++ ⟨#[c]⟩ ++ cutS t (some r5) none), V.str (cutS t none (some r5) ++ ⟨#[c]⟩ ++ cutS t (some (r5 + 1)) none)]) g1 l1
          refine ⟨_, v, .inl (.inl (.inl upd_same)), hv, ?_⟩
          have d6 := d5.new (p := l) (o := .lst [V.str t, V.str t, V.str (cutS t none (some r5) ++ ⟨#[c]⟩ ++ cutS t (some r5) none), V.str (cutS t none (some r5) ++ ⟨#[c]⟩ ++ cutS t (some (r5 + 1)) none)]) nl trivial
          refine d6.done wf s0 fun p q h0 => ?_
          have hz : ∃ z, v = .str z ∧ z.length ≤ 1000000 ∧ sOk z := by
            have h1 := c1 none (some r5)
            have h2 := c1 (some r5) none
            have h3 := c1 (some (r5 + 1)) none
            simp only [List.mem_cons, List.not_mem_nil, or_false] at hm
            rcases hm with rfl | rfl | rfl | rfl
            · exact ⟨_, rfl, by omega, hto⟩
            · exact ⟨_, rfl, by omega, hto⟩
            · exact ⟨_, rfl, by rw [la, la]; omega, sOk_app (sOk_app (sOk_cut hto) hco) (sOk_cut hto)⟩
            · exact ⟨_, rfl, by rw [la, la]; omega, sOk_app (sOk_app (sOk_cut hto) hco) (sOk_cut hto)⟩
          obtain ⟨z, rfl, hz, hzo⟩ := hz
          exact k z p q hz hzo h0

theorem st_ne {H : Hp} {a l : Addr} (s : St2 H a) (n : H l = none) : l ≠ a := fun e => by
  obtain ⟨_, _, e1, _⟩ := s
  rw [← e, n] at e1
  cases e1

abbrev s__law_number : Stmt := topS 13
abbrev N__law_number : List Str := ["_law_state_here", "_law_way", "_law_few", "_law_far"]
theorem sc__law_number : FnScope N__law_number ["_law_state_here"] (defScope s__law_number) := ⟨rfl, rfl, rfl, by decide +kernel, rfl, by decide +kernel, by decide +kernel⟩
def sp__law_number (K : PySem.W.Frag) : Sp := fun vs H Q E => arg1 (fun s => ∃ a, s = .ref a ∧ St2 H a ∧ Wf H ∧ ∀ n p q, 0 ≤ p → Q (.int n) (upd H a (stL p q))) vs
theorem ok__law_number {P : Program} {w : World} {K : PySem.W.Frag} {mg : Str → Option Value} {base : Heap} (T : Txt K mg) : Ok P w K mg base 3 "_law_number" ["_law_state_here"] (sp__law_number K) := by
  refine okF T.f__law_number sc__law_number (fun vs H Q E h => ?_) (fun f cdv A outer s H vs Q E hr h => ?_)
  · obtain ⟨s, rfl, h⟩ := arg1.ex h
    rfl
  · obtain ⟨s, rfl, h⟩ := arg1.ex h
    refine ⟨_, pss_cons (ps_set (i := 1) sc__law_number.nd rfl (.inl rfl) (pe_f (ok__law_digit (K := K) T) hr passL (pa_cons (lv 0) (pa_cons pe_int pa_nil))))
      (pss_cons (ps_set (i := 2) sc__law_number.nd rfl (.inl rfl) (pe_op opU_sub (pe_f (ok__law_digit (K := K) T) hr passL (pa_cons (lv 0) (pa_cons pe_int pa_nil))) pe_int))
      (pss_cons (ps_set (i := 3) sc__law_number.nd rfl (.inl rfl) (pe_op opU_mul (pe_f (ok__law_digit (K := K) T) hr passL (pa_cons (lv 0) (pa_cons (pe_op opU_pow pe_int pe_int) pa_nil))) (pe_ix (ixU (K := K)) (pe_lst (pa_cons pe_int (pa_cons (pe_un unU_neg pe_int) pa_nil))) (pe_f (ok__law_digit (K := K) T) hr passL (pa_cons (lv 0) (pa_cons pe_int pa_nil))) (fun _ _ => rfl))))
      (pss_one (ps_ret (pe_ix (ixU (K := K)) (pe_lst (pa_cons (lv 2) (pa_cons (pe_op (opU_add (K := K)) (pe_op opU_pow pe_int pe_int) (lv 2)) (pa_cons (pe_f (ok__law_digit (K := K) T) hr passL (pa_cons (lv 0) (pa_cons (pe_op opU_pow pe_int pe_int) pa_nil))) (pa_cons (lv 3) (pa_cons (pe_op opU_mul (lv 2) (pe_op opU_pow pe_int pe_int)) pa_nil)))))) (lv 1) (fun _ _ => rfl)))))), ?_⟩
    obtain ⟨a, rfl, s0, wf, k⟩ := h
    have d0 := Dr.refl s0 wf
    refine ⟨a, 5, rfl, rfl, s0, bas_lt (by decide) (by decide), wf, fun r1 p1 q1 g1 l1 n1 => ?_⟩
    have d1 := d0.drawn (q := q1) n1
    generalize upd H a (stL p1 q1) = H1 at d1 ⊢
    refine ⟨a, 5, rfl, rfl, d1.st, bas_lt (by decide) (by decide), d1.wf, fun r2 p2 q2 g2 l2 n2 => ?_⟩
    have d2 := d1.drawn (q := q2) n2
    generalize upd H1 a (stL p2 q2) = H2 at d2 ⊢
    refine ⟨⟨by decide, by decide, by decide⟩, ?_⟩
    refine ⟨a, _, rfl, rfl, d2.st, bas_lt (by decide) (by decide), d2.wf, fun r3 p3 q3 g3 l3 n3 => ?_⟩
    have d3 := d2.drawn (q := q3) n3
    generalize upd H2 a (stL p3 q3) = H3 at d3 ⊢
    refine ⟨line_of (show 2 ≤ 16777216 by decide), fun l nl => ?_⟩
    have nla := st_ne d3.st nl
    have d4 := d3.new (p := l) (o := .lst [.int 1, .int (-1)]) nl trivial
    have e4 : (upd H3 l (.lst [.int 1, .int (-1)])) l = some (.lst [.int 1, .int (-1)]) := upd_same
    generalize upd H3 l (.lst [.int 1, .int (-1)]) = H4 at d4 e4 ⊢
    refine ⟨a, 2, rfl, rfl, d4.st, bas_lt (by decide) (by decide), d4.wf, fun r5 p5 q5 g5 l5 n5 => ?_⟩
    have d5 := d4.drawn (q := q5) n5
    have e5 : (upd H4 a (stL p5 q5)) l = some (.lst [.int 1, .int (-1)]) := (upd_ne nla).trans e4
    generalize upd H4 a (stL p5 q5) = H5 at d5 e5 ⊢
    obtain ⟨v, hv, hm⟩ := at_lt (xs := [V.int 1, V.int (-1)]) g5 (by exact l5)
    refine ⟨_, v, .inl (.inl (.inl e5)), hv, ?_⟩
    have hb : ∃ b : Int, v = .int b ∧ -5 < b ∧ b < 5 := by
      simp only [List.mem_cons, List.not_mem_nil, or_false] at hm
      rcases hm with rfl | rfl
      · exact ⟨1, rfl, by decide, by decide⟩
      · exact ⟨-1, rfl, by decide, by decide⟩
    obtain ⟨b, rfl, b1, b2⟩ := hb
    refine ⟨.inl (.inr ⟨by omega, by omega⟩), ?_⟩
    refine ⟨⟨by decide, by decide, by decide⟩, ?_⟩
    refine ⟨⟨by decide, by decide, by decide⟩, ?_⟩
    refine ⟨a, _, rfl, rfl, d5.st, bas_lt (by decide) (by decide), d5.wf, fun r6 p6 q6 g6 l6 n6 => ?_⟩
    have d6 := d5.drawn (q := q6) n6
    generalize upd H5 a (stL p6 q6) = H6 at d6 ⊢
    refine ⟨⟨by decide, by decide, by decide⟩, .inl (.inl ⟨by omega, by omega⟩), ?_⟩
    refine ⟨line_of (show 5 ≤ 16777216 by decide), fun m nm => ?_⟩
    have key : ∀ xs : List V, (∀ v ∈ xs, ∃ n, v = V.int n) → xs.length = 5 → ∃ n, atI xs r1 = some (.int n) := fun xs hx hl => by
      obtain ⟨v, hv, hm⟩ := at_lt (xs := xs) g1 (by rw [hl]; exact l1)
      obtain ⟨n, rfl⟩ := hx v hm
      exact ⟨n, hv⟩
    refine ⟨_, _, .inl (.inl (.inl upd_same)), (key _ ?hx rfl).choose_spec, ?_⟩
    case hx =>
      intro v hv
      simp only [List.mem_cons, List.not_mem_nil, or_false] at hv
      rcases hv with rfl | rfl | rfl | rfl | rfl <;> exact ⟨_, rfl⟩
    exact (d6.new (p := m) nm (show Flat (.lst _) from trivial)).done wf s0 fun p q h0 => k _ p q h0

abbrev s__law_thing : Stmt := topS 14
abbrev N__law_thing : List Str := ["_law_state_here", "_law_way", "_law_some"]
theorem sc__law_thing : FnScope N__law_thing ["_law_state_here"] (defScope s__law_thing) := ⟨rfl, rfl, rfl, by decide +kernel, rfl, by decide +kernel, by decide +kernel⟩
def sp__law_thing (K : PySem.W.Frag) : Sp := fun vs H Q E => arg1 (fun s => ∃ a, s = .ref a ∧ St2 H a ∧ Wf H ∧ ∀ v H', Dr a H H' → Known K H' v → Short v → Q v H') vs
theorem ok__law_thing {P : Program} {w : World} {K : PySem.W.Frag} {mg : Str → Option Value} {base : Heap} (T : Txt K mg) : Ok P w K mg base 4 "_law_thing" ["_law_state_here"] (sp__law_thing K) := by
  refine okF T.f__law_thing sc__law_thing (fun vs H Q E h => ?_) (fun f cdv A outer s H vs Q E hr h => ?_)
  · obtain ⟨s, rfl, h⟩ := arg1.ex h
    rfl
  · obtain ⟨s, rfl, h⟩ := arg1.ex h
    refine ⟨_, pss_cons (ps_set (i := 1) sc__law_thing.nd rfl (.inl rfl) (pe_f (ok__law_digit (K := K) T) (hr.mono (by decide)) passL (pa_cons (lv 0) (pa_cons pe_int pa_nil))))
      (pss_cons (ps_if (pt_cmpU opU_lt (lv 1) pe_int (nomark _))
      (pss_one (ps_ret (pe_f (ok__law_text (K := K) T) hr passL (pa_cons (lv 0) pa_nil)))) pss_nil)
      (pss_cons (ps_if (pt_cmpU opU_lt (lv 1) pe_int (nomark _))
      (pss_one (ps_ret (pe_f (ok__law_number (K := K) T) hr passL (pa_cons (lv 0) pa_nil)))) pss_nil)
      (pss_cons (ps_set (i := 2) sc__law_thing.nd rfl (.inl rfl) (pe_lst (pa_cons pe_bl (pa_cons pe_bl (pa_cons pe_non (pa_cons (pe_lst pa_nil) (pa_cons (pe_lst (pa_cons pe_str pa_nil)) (pa_cons (pe_tup (pa_cons pe_str pa_nil)) (pa_cons pe_dnewK (pa_cons (pe_tup (pa_cons pe_int pa_nil)) (pa_cons (pe_tup pa_nil) (pa_cons (pe_disp (pps_cons pe_str pe_int pps_nil) (by rfl) (by rfl) (fun z => by cases z) (by decide)) pa_nil))))))))))))
      (pss_one (ps_ret (pe_ix (ixU (K := K)) (lv 2) (pe_f (ok__law_digit (K := K) T) (hr.mono (by decide)) passL (pa_cons (lv 0) (pa_cons (pe_callB (callU_len (K := K)) (by rfl) T.m_len (by decide +kernel) (pa_cons (lv 2) pa_nil)) pa_nil))) (fun _ _ => rfl))))))), ?_⟩
    obtain ⟨a, rfl, s0, wf, k⟩ := h
    have d0 := Dr.refl s0 wf
    refine ⟨a, 5, rfl, rfl, s0, bas_lt (by decide) (by decide), wf, fun r1 p1 q1 g1 l1 n1 => ?_⟩
    have d1 := d0.drawn (q := q1) n1
    generalize upd H a (stL p1 q1) = H1 at d1 ⊢
    refine iteC (fun h1 => ?_) (fun h1 => ?_)
    · refine ⟨a, rfl, d1.st, d1.wf, fun z p q hz hzo hp => ?_⟩
      have d2 := d1.drawn (q := q) hp
      exact bQ.mk d2.wf (k _ _ d2 trivial fun z' e => by cases e; exact ⟨hz, hzo⟩)
    · refine iteC (fun h2 => ?_) (fun h2 => ?_)
      · refine ⟨a, rfl, d1.st, d1.wf, fun n p q hp => ?_⟩
        have d2 := d1.drawn (q := q) hp
        exact bQ.mk d2.wf (k _ _ d2 trivial fun z' e => by cases e)
      · have tr : ∀ {H : Hp} {p b : Addr} {o u : HO}, H p = none → H b = some u → (upd H p o) b = some u := fun n e => same_new n _ _ e
        refine ⟨line_of (show 0 ≤ 16777216 by decide), fun x1 nx1 => ?_⟩
        have d2 := d1.new (p := x1) (o := .lst []) nx1 trivial
        have e1 : (upd H1 x1 (.lst [])) x1 = some (.lst []) := upd_same
        generalize upd H1 x1 (.lst []) = H2 at d2 e1 ⊢
        refine ⟨line_of (show 1 ≤ 16777216 by decide), fun x2 nx2 => ?_⟩
        have d3 := d2.new (p := x2) (o := .lst [.str "a"]) nx2 trivial
        replace e1 := tr (p := x2) (o := .lst [.str "a"]) nx2 e1
        have e2 : (upd H2 x2 (.lst [.str "a"])) x2 = some (.lst [.str "a"]) := upd_same
        generalize upd H2 x2 (.lst [.str "a"]) = H3 at d3 e1 e2 ⊢
        refine ⟨line_of (show 1 ≤ 16777216 by decide), fun x3 nx3 => ?_⟩
        have d4 := d3.new (p := x3) (o := .tup [.str "a"]) nx3 trivial
        replace e1 := tr (p := x3) (o := .tup [.str "a"]) nx3 e1
        replace e2 := tr (p := x3) (o := .tup [.str "a"]) nx3 e2
        have e3 : (upd H3 x3 (.tup [.str "a"])) x3 = some (.tup [.str "a"]) := upd_same
        generalize upd H3 x3 (.tup [.str "a"]) = H4 at d4 e1 e2 e3 ⊢
        intro x4 nx4
        have d5 := d4.new (p := x4) (o := .dK []) nx4 trivial
        replace e1 := tr (p := x4) (o := .dK []) nx4 e1
        replace e2 := tr (p := x4) (o := .dK []) nx4 e2
        replace e3 := tr (p := x4) (o := .dK []) nx4 e3
        have e4 : (upd H4 x4 (.dK [])) x4 = some (.dK []) := upd_same
        generalize upd H4 x4 (.dK []) = H5 at d5 e1 e2 e3 e4 ⊢
        refine ⟨line_of (show 1 ≤ 16777216 by decide), fun x5 nx5 => ?_⟩
        have d6 := d5.new (p := x5) (o := .tup [.int 1]) nx5 trivial
        replace e1 := tr (p := x5) (o := .tup [.int 1]) nx5 e1
        replace e2 := tr (p := x5) (o := .tup [.int 1]) nx5 e2
        replace e3 := tr (p := x5) (o := .tup [.int 1]) nx5 e3
        replace e4 := tr (p := x5) (o := .tup [.int 1]) nx5 e4
        have e5 : (upd H5 x5 (.tup [.int 1])) x5 = some (.tup [.int 1]) := upd_same
        generalize upd H5 x5 (.tup [.int 1]) = H6 at d6 e1 e2 e3 e4 e5 ⊢
        refine ⟨line_of (show 0 ≤ 16777216 by decide), fun x6 nx6 => ?_⟩
        have d7 := d6.new (p := x6) (o := .tup []) nx6 trivial
        replace e1 := tr (p := x6) (o := .tup []) nx6 e1
        replace e2 := tr (p := x6) (o := .tup []) nx6 e2
        replace e3 := tr (p := x6) (o := .tup []) nx6 e3
        replace e4 := tr (p := x6) (o := .tup []) nx6 e4
        replace e5 := tr (p := x6) (o := .tup []) nx6 e5
        have e6 : (upd H6 x6 (.tup [])) x6 = some (.tup []) := upd_same
        generalize upd H6 x6 (.tup []) = H7 at d7 e1 e2 e3 e4 e5 e6 ⊢
        intro x7 nx7
        refine ⟨upd_same, [(.inr "a", .int 1)], rfl, by decide, ?_⟩
        rw [upd_upd]
        have d8 := d7.new (p := x7) (o := .dK (mergeK [] [(.inr "a", .int 1)])) nx7 trivial
        replace e1 := tr (p := x7) (o := .dK (mergeK [] [(.inr "a", .int 1)])) nx7 e1
        replace e2 := tr (p := x7) (o := .dK (mergeK [] [(.inr "a", .int 1)])) nx7 e2
        replace e3 := tr (p := x7) (o := .dK (mergeK [] [(.inr "a", .int 1)])) nx7 e3
        replace e4 := tr (p := x7) (o := .dK (mergeK [] [(.inr "a", .int 1)])) nx7 e4
        replace e5 := tr (p := x7) (o := .dK (mergeK [] [(.inr "a", .int 1)])) nx7 e5
        replace e6 := tr (p := x7) (o := .dK (mergeK [] [(.inr "a", .int 1)])) nx7 e6
        have e7 : (upd H7 x7 (.dK (mergeK [] [(.inr "a", .int 1)]))) x7 = some (.dK (mergeK [] [(.inr "a", .int 1)])) := upd_same
        generalize upd H7 x7 (.dK (mergeK [] [(.inr "a", .int 1)])) = H8 at d8 e1 e2 e3 e4 e5 e6 e7 ⊢
        refine ⟨line_of (show 10 ≤ 16777216 by decide), fun l nl => ?_⟩
        have nla := st_ne d8.st nl
        have d9 := d8.new (p := l) (o := .lst [.bl true, .bl false, .non, .ref x1, .ref x2, .ref x3, .ref x4, .ref x5, .ref x6, .ref x7]) nl trivial
        have el : (upd H8 l (.lst [.bl true, .bl false, .non, .ref x1, .ref x2, .ref x3, .ref x4, .ref x5, .ref x6, .ref x7])) l = some (.lst [.bl true, .bl false, .non, .ref x1, .ref x2, .ref x3, .ref x4, .ref x5, .ref x6, .ref x7]) := upd_same
        replace e1 := tr (p := l) (o := .lst [.bl true, .bl false, .non, .ref x1, .ref x2, .ref x3, .ref x4, .ref x5, .ref x6, .ref x7]) nl e1
        replace e2 := tr (p := l) (o := .lst [.bl true, .bl false, .non, .ref x1, .ref x2, .ref x3, .ref x4, .ref x5, .ref x6, .ref x7]) nl e2
        replace e3 := tr (p := l) (o := .lst [.bl true, .bl false, .non, .ref x1, .ref x2, .ref x3, .ref x4, .ref x5, .ref x6, .ref x7]) nl e3
        replace e4 := tr (p := l) (o := .lst [.bl true, .bl false, .non, .ref x1, .ref x2, .ref x3, .ref x4, .ref x5, .ref x6, .ref x7]) nl e4
        replace e5 := tr (p := l) (o := .lst [.bl true, .bl false, .non, .ref x1, .ref x2, .ref x3, .ref x4, .ref x5, .ref x6, .ref x7]) nl e5
        replace e6 := tr (p := l) (o := .lst [.bl true, .bl false, .non, .ref x1, .ref x2, .ref x3, .ref x4, .ref x5, .ref x6, .ref x7]) nl e6
        replace e7 := tr (p := l) (o := .lst [.bl true, .bl false, .non, .ref x1, .ref x2, .ref x3, .ref x4, .ref x5, .ref x6, .ref x7]) nl e7
        generalize upd H8 l (.lst [.bl true, .bl false, .non, .ref x1, .ref x2, .ref x3, .ref x4, .ref x5, .ref x6, .ref x7]) = H9 at d9 el e1 e2 e3 e4 e5 e6 e7 ⊢
        refine .inl ⟨_, .inl (.inl (.inl el)), ?_⟩
        refine ⟨a, _, rfl, rfl, d9.st, bas_lt (show (0 : Int) < 10 by decide) (show (10 : Int) < 2 ^ 200 by decide), d9.wf, fun r p q g h n => ?_⟩
        have da := (Dr.refl d9.st d9.wf).drawn (q := q) n
        have dz := d9.trans da
        obtain ⟨v, hv, hm⟩ := at_lt g (by exact h)
        refine ⟨_, v, .inl (.inl (.inl ((upd_ne nla).trans el))), hv, ?_⟩
        refine bQ.mk dz.wf (k _ _ dz ?_ fun z' e => ?_)
        · simp only [List.mem_cons, List.not_mem_nil, or_false] at hm
          rcases hm with rfl | rfl | rfl | rfl | rfl | rfl | rfl | rfl | rfl | rfl
          · trivial
          · trivial
          · trivial
          · exact .inl ⟨_, da.at e1 (fun _ _ z => by cases z) d9.st⟩
          · exact .inl ⟨_, da.at e2 (fun _ _ z => by cases z) d9.st⟩
          · exact .inr (.inl ⟨_, da.at e3 (fun _ _ z => by cases z) d9.st⟩)
          · exact .inr (.inr ⟨_, da.at e4 (fun _ _ z => by cases z) d9.st⟩)
          · exact .inr (.inl ⟨_, da.at e5 (fun _ _ z => by cases z) d9.st⟩)
          · exact .inr (.inl ⟨_, da.at e6 (fun _ _ z => by cases z) d9.st⟩)
          · exact .inr (.inr ⟨_, da.at e7 (fun _ _ z => by cases z) d9.st⟩)
        · subst e
          simp only [List.mem_cons, List.not_mem_nil, or_false, reduceCtorEq] at hm

abbrev s__law_is_plain : Stmt := topS 15
abbrev N__law_is_plain : List Str := ["_law_thing_here"]
theorem sc__law_is_plain : FnScope N__law_is_plain ["_law_thing_here"] (defScope s__law_is_plain) := ⟨rfl, rfl, rfl, by decide +kernel, rfl, by decide +kernel, by decide +kernel⟩
def sp__law_is_plain (K : PySem.W.Frag) : Sp := fun vs H Q E => arg1 (fun v => Known K H v ∧ Wf H ∧ Q (.bl (isInt v && !isBl v)) H) vs
theorem ok__law_is_plain {P : Program} {w : World} {K : PySem.W.Frag} {mg : Str → Option Value} {base : Heap} (T : Txt K mg) : Ok P w K mg base 1 "_law_is_plain" ["_law_thing_here"] (sp__law_is_plain K) := by
  refine okF T.f__law_is_plain sc__law_is_plain (fun vs H Q E h => ?_) (fun f cdv A outer s H vs Q E hr h => ?_)
  · obtain ⟨v, rfl, h⟩ := arg1.ex h
    rfl
  · obtain ⟨v, rfl, h⟩ := arg1.ex h
    refine ⟨_, pss_one (ps_ret (pe_andU (K := K) (pe_callB (callU_isi (K := K)) (by rfl) T.m_isinstance (by decide +kernel) (pa_cons (lv 0) (pa_cons (pe_ty "int" T.m_int) pa_nil))) (pe_one (pe_notU (K := K) (pe_callB (callU_isi (K := K)) (by rfl) T.m_isinstance (by decide +kernel) (pa_cons (lv 0) (pa_cons (pe_ty "bool" T.m_bool) pa_nil))))))), ?_⟩
    obtain ⟨hk, wf, k⟩ := h
    refine ⟨_, isi_int hk, ?_⟩
    cases v with
    | int n => exact ⟨_, isi_bool hk, bQ.same wf (Same.refl _) k⟩
    | bl n => exact ⟨_, isi_bool hk, bQ.same wf (Same.refl _) k⟩
    | str z => exact bQ.same wf (Same.refl _) k
    | non => exact bQ.same wf (Same.refl _) k
    | ref p => exact bQ.same wf (Same.refl _) k
    | byt b => exact hk.elim
    | flt b => exact hk.elim
    | ty b => exact hk.elim

abbrev s__law_is_right : Stmt := topS 16
abbrev N__law_is_right : List Str := ["_law_told", "_law_due"]
theorem sc__law_is_right : FnScope N__law_is_right ["_law_told", "_law_due"] (defScope s__law_is_right) := ⟨rfl, rfl, rfl, by decide +kernel, rfl, by decide +kernel, by decide +kernel⟩
def sp__law_is_right (K : PySem.W.Frag) : Sp := fun vs H Q E => arg2 (fun v u => ∃ a b, v = .bl a ∧ u = .bl b ∧ Wf H ∧ Q (.bl (decide (V.bl a = V.bl b))) H) vs
theorem ok__law_is_right {P : Program} {w : World} {K : PySem.W.Frag} {mg : Str → Option Value} {base : Heap} (T : Txt K mg) : Ok P w K mg base 1 "_law_is_right" ["_law_told", "_law_due"] (sp__law_is_right K) := by
  refine okF T.f__law_is_right sc__law_is_right (fun vs H Q E h => ?_) (fun f cdv A outer s H vs Q E hr h => ?_)
  · obtain ⟨v, u, rfl, h⟩ := arg2.ex h
    rfl
  · obtain ⟨v, u, rfl, h⟩ := arg2.ex h
    refine ⟨_, pss_one (ps_ret (pe_andU (K := K) (pe_callB (callU_isi (K := K)) (by rfl) T.m_isinstance (by decide +kernel) (pa_cons (lv 0) (pa_cons (pe_ty "bool" T.m_bool) pa_nil))) (pe_one (pe_cmpR (opU_eq (K := K) hr) (lv 0) (lv 1) (nomark _))))), ?_⟩
    obtain ⟨a, b, rfl, rfl, wf, k⟩ := h
    exact ⟨_, isi_bool (v := .bl a) trivial, bQ.same wf (Same.refl _) k⟩

def nb1 : V → Bool | .str z => decide (0 < (z.length : Int)) && decide ((z.length : Int) < 9) | _ => false
theorem lets_iff {c : Nat} : c ∈ lets ↔ 97 ≤ c ∧ c ≤ 122 := by
  have e : lets = List.range' 97 26 := by decide +kernel
  rw [e, List.mem_range'_1]
  omega
theorem Known.dr {K : PySem.W.Frag} {b : Addr} {H H' : Hp} (d : Dr b H H') : ∀ {v : V}, Known K H v → Known K H' v
  | .non, h => h
  | .bl _, h => h
  | .int _, h => h
  | .str _, h => h
  | .ref x, h => by
    by_cases e : x = b
    · subst e
      obtain ⟨p, q, z, _⟩ := d.st
      exact .inl ⟨_, z⟩
    · rcases h with ⟨_, h⟩ | ⟨_, h⟩ | ⟨_, h⟩
      · exact .inl ⟨_, d.kp _ _ e h⟩
      · exact .inr (.inl ⟨_, d.kp _ _ e h⟩)
      · exact .inr (.inr ⟨_, d.kp _ _ e h⟩)
  | .byt _, h => h.elim
  | .flt _, h => h.elim
  | .ty _, h => h.elim
def qLet (c : Nat) : Bool := !((!decide (([c] : List Nat) < [97])) && !decide (([122] : List Nat) < [c]))
theorem qLet_iff {c : Nat} : qLet c = !decide (c ∈ lets) := by
  unfold qLet
  have e1 := @lt_one c 97
  have e2 := @lt_one 122 c
  by_cases h : c ∈ lets
  · have h' := lets_iff.mp h
    rw [decide_eq_true h, decide_eq_false (by rw [e1]; omega), decide_eq_false (by rw [e2]; omega)]
    rfl
  · have h' : ¬ (97 ≤ c ∧ c ≤ 122) := fun z => h (lets_iff.mpr z)
    rw [decide_eq_false h]
    by_cases h2 : c < 97
    · rw [decide_eq_true (e1.mpr h2)]
      rfl
    · rw [decide_eq_true (e2.mpr (by omega))]
      simp
theorem name_of {z : Str} (h : nb1 (.str z) = true) : PyData.eqv (.list (((z.cps.toList.filter qLet).map fun c => (⟨#[c]⟩ : Str)).map .str)) (.list []) = isNameB (.str z) := by
  have h' : (decide (0 < (z.length : Int)) && decide ((z.length : Int) < 9)) = true := h
  rw [Bool.and_eq_true, decide_eq_true_eq, decide_eq_true_eq] at h'
  have e : isNameB (.str z) = z.cps.toList.all fun c => decide (c ∈ lets) := by
    show (decide (1 ≤ (z.length : Int)) && decide ((z.length : Int) ≤ 8) && _) = _
    rw [decide_eq_true (by omega), decide_eq_true (by omega)]
    rfl
  rw [e]
  have e2 : (fun c => decide (c ∈ lets)) = fun c => !qLet c := by
    funext c
    rw [qLet_iff]
    simp
  rw [e2]
  cases q : z.cps.toList.filter qLet with
  | nil =>
    rw [List.filter_eq_nil_iff] at q
    have : (z.cps.toList.all fun c => !qLet c) = true := by
      rw [List.all_eq_true]
      intro c hc
      simpa using q c hc
    rw [this]
    rfl
  | cons c r =>
    have hc : c ∈ z.cps.toList.filter qLet := by rw [q]; exact List.mem_cons_self
    rw [List.mem_filter] at hc
    have : (z.cps.toList.all fun c => !qLet c) = false := by
      rw [List.all_eq_false]
      exact ⟨c, hc.1, by rw [hc.2]; exact Bool.false_ne_true⟩
    rw [this]
    rfl
theorem name_no {v : V} (h : nb1 v = false) : isNameB v = false := by
  cases v with
  | str z =>
    have h' : (decide (0 < (z.length : Int)) && decide ((z.length : Int) < 9)) = false := h
    show (decide (1 ≤ (z.length : Int)) && decide ((z.length : Int) ≤ 8) && _) = _
    by_cases h1 : 1 ≤ (z.length : Int)
    · have h2 : ¬ (z.length : Int) ≤ 8 := fun h2 => by
        rw [decide_eq_true (by omega), decide_eq_true (by omega)] at h'
        cases h'
      rw [decide_eq_false h2, Bool.and_false, Bool.false_and]
    · rw [decide_eq_false h1, Bool.false_and, Bool.false_and]
  | _ => rfl

abbrev s_law : Stmt := topS 17
abbrev N_law : List Str := ["_law_script", "_law_k", "_law_state_here", "_law_thing_here", "_law_named", "_law_plain", "_law_low", "_law_high", "_law_sign"]
theorem sc_law : FnScope N_law ["_law_script"] (defScope s_law) := ⟨rfl, rfl, rfl, by decide +kernel, rfl, by decide +kernel, by decide +kernel⟩
def sp_law (K : PySem.W.Frag) : Sp := fun vs H Q E => arg1 (fun s => ∃ ns, ScrL K H s ns ∧ Wf H ∧ ∀ H', Q (.bl true) H') vs
theorem ok_law {P : Program} {w : World} {K : PySem.W.Frag} {mg : Str → Option Value} {base : Heap} {f : Addr} {fd : FuncData} (F : Fun K "law" "law" s_law f fd) (T : Txt K mg) : FnOk P w K mg base CX0 5 f fd ["_law_script"] (sp_law K) := by
  refine F.ok sc_law (fun vs H Q E h => ?_) (fun cdv A outer s H vs Q E hr h => ?_)
  · obtain ⟨s, rfl, h⟩ := arg1.ex h
    rfl
  · obtain ⟨s, rfl, h⟩ := arg1.ex h
    refine ⟨_, pss_cons (ps_for (PassesOwn.never) rfl (pi_range1 (by rfl) T.m_range (pa_cons (pe_op (opU_add (K := K)) pe_int (pe_callB (callU_min2 rfl) (by rfl) T.m_min (by decide +kernel) (pa_cons (pe_callB (callU_len (K := K)) (by rfl) T.m_len (by decide +kernel) (pa_cons (lv 0) pa_nil)) (pa_cons pe_int pa_nil)))) pa_nil)) (pg_name (i := 1) sc_law.nd rfl (.inl rfl))
      (pss_cons (ps_set (i := 2) sc_law.nd rfl (.inl rfl) (pe_f (ok__law_state (K := K) T) (hr.mono (by decide)) passL (pa_cons (pe_f (ok__law_cell_at (K := K) T) (hr.mono (by decide)) passL (pa_cons (lv 0) (pa_cons (lv 1) pa_nil))) (pa_cons (lv 1) pa_nil))))
      (pss_cons (ps_set (i := 3) sc_law.nd rfl (.inl rfl) (pe_f (ok__law_thing (K := K) T) hr passL (pa_cons (lv 2) pa_nil)))
      (pss_cons (ps_cut (ps_set (i := 4) sc_law.nd rfl (.inl rfl) (pe_andU (K := K) (pe_callB (callU_isi (K := K)) (by rfl) T.m_isinstance (by decide +kernel) (pa_cons (lv 3) (pa_cons (pe_ty "str" T.m_str) pa_nil))) (pe_one (pe_chainU opU_lt opU_lt pe_int (pe_callB (callU_len (K := K)) (by rfl) T.m_len (by decide +kernel) (pa_cons (lv 3) pa_nil)) pe_int)))))
      (pss_cons (ps_cut (ps_if (pt_truthU (K := K) (lv 4) (by intro _; rfl))
      (pss_one (ps_set (i := 4) sc_law.nd rfl (.inl rfl) (pe_cmpR (opU_eq (K := K) hr) (pe_lc (own := [("_law_sign", 8)]) (g := gName 8) rfl sc_law.nd (pi_str (lv 3)) (blkOk_by (own := [("_law_sign", 8)]) (N := N_law) (sc := defScope s_law) (by decide +kernel)) (fun _ _ _ _ _ => pg_name (i := 8) sc_law.nd rfl (.inl rfl)) (fun _ _ _ _ _ => pts_one (pt_not (pt_chainU opU_le opU_le pe_str (lv 8) pe_str))) (fun _ _ _ _ _ => lv 8)) (pe_lst pa_nil) (nomark _)))) pss_nil))
      (pss_cons (ps_if (pt_not (pt_truthU (K := K) (pe_f (ok__law_is_right (K := K) T) (hr.mono (by decide)) passL (pa_cons (pe_f (ok_is_name (K := K) T) (hr.mono (by decide)) passL (pa_cons (lv 3) pa_nil)) (pa_cons (lv 4) pa_nil))) (by intro _; rfl)))
      (pss_one (ps_ret pe_bl)) pss_nil)
      (pss_cons (ps_set (i := 5) sc_law.nd rfl (.inl rfl) (pe_f (ok__law_is_plain (K := K) T) (hr.mono (by decide)) passL (pa_cons (lv 3) pa_nil)))
      (pss_cons (ps_if (pt_not (pt_truthU (K := K) (pe_f (ok__law_is_right (K := K) T) (hr.mono (by decide)) passL (pa_cons (pe_f (ok_is_moment (K := K) T) (hr.mono (by decide)) passL (pa_cons (lv 3) pa_nil)) (pa_cons (pe_cut (pe_andU (K := K) (lv 5) (pe_one (pe_chainU opU_le opU_le pe_int (lv 3) (pe_op opU_pow pe_int pe_int))))) pa_nil))) (by intro _; rfl)))
      (pss_one (ps_ret pe_bl)) pss_nil)
      (pss_cons (ps_set (i := 6) sc_law.nd rfl (.inl rfl) (pe_f (ok__law_number (K := K) T) (hr.mono (by decide)) passL (pa_cons (lv 2) pa_nil)))
      (pss_cons (ps_cut (ps_if (PW.pt (pw_and (pt_truthU (K := K) (lv 5) (by intro _; rfl)) (pw_and1 (pt_cmpU (opU_eq (K := K) hr) (pe_f (ok__law_digit (K := K) T) (hr.mono (by decide)) passL (pa_cons (lv 2) (pa_cons pe_int pa_nil))) pe_int (nomark _)))))
      (pss_one (ps_set (i := 6) sc_law.nd rfl (.inl rfl) (pe_op opU_sub (pe_op (opU_add (K := K)) (lv 3) (pe_f (ok__law_digit (K := K) T) (hr.mono (by decide)) passL (pa_cons (lv 2) (pa_cons pe_int pa_nil)))) pe_int))) pss_nil))
      (pss_cons (ps_set (i := 7) sc_law.nd rfl (.inl rfl) (pe_op (opU_add (K := K)) (lv 6) (pe_ix (ixU (K := K)) (pe_lst (pa_cons (pe_f (ok__law_digit (K := K) T) (hr.mono (by decide)) passL (pa_cons (lv 2) (pa_cons pe_int pa_nil))) (pa_cons (pe_f (ok__law_digit (K := K) T) (hr.mono (by decide)) passL (pa_cons (lv 2) (pa_cons (pe_op opU_pow pe_int pe_int) pa_nil))) pa_nil))) (pe_f (ok__law_digit (K := K) T) (hr.mono (by decide)) passL (pa_cons (lv 2) (pa_cons pe_int pa_nil))) (fun _ _ => rfl))))
      (pss_one (ps_if (pt_not (pt_truthU (K := K) (pe_f (ok__law_is_right (K := K) T) (hr.mono (by decide)) passL (pa_cons (pe_f (ok_is_whole (K := K) T) (hr.mono (by decide)) passL (pa_cons (lv 3) (pa_cons (lv 6) (pa_cons (lv 7) pa_nil)))) (pa_cons (pe_cut (pe_andU (K := K) (lv 5) (pe_one (pe_chainU opU_le opU_le (lv 6) (lv 3) (lv 7))))) pa_nil))) (by intro _; rfl)))
      (pss_one (ps_ret pe_bl)) pss_nil)))))))))))))
      (pss_one (ps_ret pe_bl)), ?_⟩
    obtain ⟨ns, ⟨a, rfl, hS, hl⟩, wf, k⟩ := h
    refine .inl ⟨_, .inl hS, _, rfl, by split <;> omega, by split <;> omega, ?_⟩
    refine for_range (lo := 0) (n := _) (fun i σ H' => Same H H' ∧ Wf H' ∧ ∃ x1 x2 x3 x4 x5 x6 x7 x8, σ = [some (.ref a), x1, x2, x3, x4, x5, x6, x7, x8]) ⟨Same.refl _, wf, _, _, _, _, _, _, _, _, rfl⟩ (fun i σ H' hi hp => ?_) (fun σ H' hp => k H')
    obtain ⟨sm, w1, x1, x2, x3, x4, x5, x6, x7, x8, rfl⟩ := hp
    have hS' := sm.seq hS
    refine ⟨ns, _, ⟨a, rfl, hS', hl⟩, rfl, by omega, w1, fun n => ?_⟩
    have hi2 : i < 64 := by
      have e : ((ns.map V.int).length : Int) = ns.length := by rw [List.length_map]
      rw [e] at hi
      split at hi <;> omega
    refine ⟨n, _, rfl, rfl, by omega, by omega, w1, fun p q b nb hp => ?_⟩
    have sm1 := sm.trans (same_new (o := stL p q) nb)
    have s0 : St2 (upd H' b (stL p q)) b := ⟨p, q, upd_same, hp⟩
    have nb0 := sm.free nb
    have w2 := w1.new (o := stL p q) trivial nb
    generalize upd H' b (stL p q) = H1 at sm1 s0 w2 ⊢
    refine ⟨b, rfl, s0, w2, fun v H2 d2 hk hz => ?_⟩
    -- named
    refine ⟨fun σ' H'' => σ' = [some (.ref a), some (.int (0 + i)), some (.ref b), some v, some (.bl (nb1 v)), x5, x6, x7, x8] ∧ H2 = H'', ⟨_, isi_str hk, ?_⟩, ?_⟩
    · cases v with
      | str z =>
        refine ⟨line_of (Nat.le_trans (hz z rfl).1 (by decide)), ?_⟩
        refine iteC (p := (0 : Int) < z.length) (fun h1 => ?_) (fun h1 => ?_)
        · refine ⟨?_, rfl⟩
          have e : nb1 (.str z) = decide ((z.length : Int) < 9) := by
            show (decide (0 < (z.length : Int)) && decide ((z.length : Int) < 9)) = _
            rw [decide_eq_true h1, Bool.true_and]
          rw [e]
          rfl
        · refine ⟨?_, rfl⟩
          have e : nb1 (.str z) = false := by
            show (decide (0 < (z.length : Int)) && decide ((z.length : Int) < 9)) = _
            rw [decide_eq_false h1, Bool.false_and]
          rw [e]
          rfl
      | non => exact ⟨rfl, rfl⟩
      | bl _ => exact ⟨rfl, rfl⟩
      | int _ => exact ⟨rfl, rfl⟩
      | ref _ => exact ⟨rfl, rfl⟩
      | byt b => exact hk.elim
      | flt b => exact hk.elim
      | ty b => exact hk.elim
    rintro _ _ ⟨rfl, rfl⟩
    -- if named
    refine ⟨fun σ' H'' => σ' = [some (.ref a), some (.int (0 + i)), some (.ref b), some v, some (.bl (isNameB v)), x5, x6, x7, x8] ∧ Dr b H2 H'', iteB (fun h => ?_) (fun h => ?_), ?_⟩
    · cases v with
      | str z =>
        refine ⟨z, rfl, fun D nD => ?_⟩
        refine lc_filt (walk_str (z := z)) (fun i x => ∃ c, z.cps[i]? = some c ∧ x = .str ⟨#[c]⟩) (fun i H x H' h => h) (fun i => .str ⟨#[z.cps.toList.getD i 0]⟩) (fun i => qLet (z.cps.toList.getD i 0)) (line_lt (Nat.lt_of_le_of_lt (hz z rfl).1 (by decide))) (fun _ => trivial) (fun i x acc C Cn hi hx h1 h2 => ?_) ?_
        · obtain ⟨c, hc, rfl⟩ := hx
          have e : z.cps.toList.getD i 0 = c := by simp [hc]
          rw [e] at h1 h2
          refine ⟨rfl, ?_⟩
          refine iteB (c := !decide (([c] : List Nat) < [97])) (fun g1 => ?_) (fun g1 => ?_)
          · refine iteB (c := !(!decide (([122] : List Nat) < [c]))) (fun g2 => h1 ?_) (fun g2 => h2 ?_)
            · unfold qLet
              rw [g1, Bool.true_and]
              exact g2
            · unfold qLet
              rw [g1, Bool.true_and]
              exact g2
          · refine h1 ?_
            unfold qLet
            rw [g1]
            rfl
        · have e := filt_getD z.cps.toList 0 qLet (fun c => V.str ⟨#[c]⟩)
          have e' : ((List.range z.cps.size).filter fun i => qLet (z.cps.toList.getD i 0)).map (fun i => V.str ⟨#[z.cps.toList.getD i 0]⟩) = ((z.cps.toList.filter qLet).map fun c => (⟨#[c]⟩ : Str)).map V.str := by
            rw [List.map_map]
            exact e
          rw [e']
          refine ⟨line_of (show 0 ≤ 16777216 by decide), fun p np => ?_⟩
          have d3 := ((Dr.refl d2.st d2.wf).new (o := .lst (((z.cps.toList.filter qLet).map fun c => (⟨#[c]⟩ : Str)).map V.str)) nD trivial).new (o := .lst []) np trivial
          refine ⟨.list (((z.cps.toList.filter qLet).map fun c => (⟨#[c]⟩ : Str)).map .str), .list [], .lst (.inl (.inl (same_new np _ _ upd_same))) (dp_strs _), .lst (.inl (.inl upd_same)) .nil, shape_strs ?_, rfl, ?_, d3⟩
          · intro y hy
            obtain ⟨c, hc, rfl⟩ := List.mem_map.mp hy
            exact sOk_one (sOk_iff.mp (hz z rfl).2 c (List.mem_filter.mp hc).1)
          · rw [name_of h]
            rfl
      | _ => cases h
    · rw [name_no h, ← h]
      exact ⟨rfl, Dr.refl d2.st d2.wf⟩
    rintro _ H3 ⟨rfl, d3⟩
    have hk3 := Known.dr d3 hk
    refine ⟨hk3, hz, d3.wf, ?_⟩
    refine ⟨_, _, rfl, rfl, d3.wf, ?_⟩
    refine iteB (fun h => absurd h (by simp)) (fun _ => ?_)
    refine ⟨hk3, d3.wf, ?_⟩
    refine ⟨hk3, d3.wf, ?_⟩
    refine ⟨fun v' H'' => v' = .bl (isWholeB v 0 1000000000000) ∧ H3 = H'', ?_, ?_⟩
    · cases v with
      | int n =>
        refine iteC (p := (0 : Int) ≤ n) (fun h1 => ?_) (fun h1 => ?_)
        · refine ⟨⟨by decide, by decide, by decide⟩, ?_, rfl⟩
          show V.bl (decide (n ≤ 10 ^ Int.toNat 12)) = V.bl (decide (0 ≤ n) && decide (n ≤ 1000000000000))
          rw [decide_eq_true h1, Bool.true_and]
          rfl
        · refine ⟨?_, rfl⟩
          show V.bl false = V.bl (decide (0 ≤ n) && decide (n ≤ 1000000000000))
          rw [decide_eq_false h1, Bool.false_and]
      | non => exact ⟨rfl, rfl⟩
      | bl _ => exact ⟨rfl, rfl⟩
      | str _ => exact ⟨rfl, rfl⟩
      | ref _ => exact ⟨rfl, rfl⟩
      | byt b => exact hk.elim
      | flt b => exact hk.elim
      | ty b => exact hk.elim
    rintro _ _ ⟨rfl, rfl⟩
    refine ⟨_, _, rfl, rfl, d3.wf, ?_⟩
    refine iteB (fun h => absurd h (by simp)) (fun _ => ?_)
    refine ⟨b, rfl, d3.st, d3.wf, fun lo p q hp => ?_⟩
    have d4 := (Dr.refl d3.st d3.wf).drawn (q := q) hp
    generalize upd H3 b (stL p q) = H4 at d4 ⊢
    refine ⟨fun σ' H'' => ∃ lo, σ' = [some (.ref a), some (.int (0 + i)), some (.ref b), some v, some (.bl (isNameB v)), some (.bl (isInt v && !isBl v)), some (.int lo), x7, x8] ∧ Dr b H3 H'', ?_, ?_⟩
    · refine iteB (c := isInt v && !isBl v) (fun h => ?_) (fun h => ?_)
      · refine ⟨b, 2, rfl, rfl, d4.st, bas_lt (by decide) (by decide), d4.wf, fun r p q h0 h1 h2 => ?_⟩
        have d5 := d4.drawn (q := q) h2
        generalize upd H4 b (stL p q) = H5 at d5 ⊢
        refine iteB (c := decide (V.int r = V.int 0)) (fun g => ?_) (fun g => ?_)
        · cases v with
          | int n =>
            refine ⟨b, 3, rfl, rfl, d5.st, bas_lt (by decide) (by decide), d5.wf, fun r p q h0 h1 h2 => ?_⟩
            exact ⟨_, rfl, d5.drawn (q := q) h2⟩
          | _ => cases h
        · exact ⟨lo, rfl, d5⟩
      · exact ⟨lo, rfl, d4⟩
    rintro _ H6 ⟨lo, rfl, d6⟩
    refine ⟨b, 3, rfl, rfl, d6.st, bas_lt (by decide) (by decide), d6.wf, fun r1 p q _ _ h2 => ?_⟩
    have d7 := d6.drawn (q := q) h2
    generalize upd H6 b (stL p q) = H7 at d7 ⊢
    refine ⟨⟨by decide, by decide, by decide⟩, ?_⟩
    refine ⟨b, _, rfl, rfl, d7.st, bas_lt (by decide) (by decide), d7.wf, fun r2 p q _ _ h2 => ?_⟩
    have d8 := d7.drawn (q := q) h2
    generalize upd H7 b (stL p q) = H8 at d8 ⊢
    refine ⟨line_of (show 2 ≤ 16777216 by decide), fun l nl => ?_⟩
    have nlb := st_ne d8.st nl
    have d9 := d8.new (p := l) (o := .lst [.int r1, .int r2]) nl trivial
    have el : (upd H8 l (.lst [.int r1, .int r2])) l = some (.lst [.int r1, .int r2]) := upd_same
    generalize upd H8 l (.lst [.int r1, .int r2]) = H9 at d9 el ⊢
    refine ⟨b, 2, rfl, rfl, d9.st, bas_lt (by decide) (by decide), d9.wf, fun r3 p q g3 l3 h2 => ?_⟩
    have d10 := d9.drawn (q := q) h2
    obtain ⟨u, hu, hm⟩ := at_lt (xs := [V.int r1, V.int r2]) g3 (by exact l3)
    have hn : ∃ n, u = V.int n := by
      simp only [List.mem_cons, List.not_mem_nil, or_false] at hm
      rcases hm with rfl | rfl <;> exact ⟨_, rfl⟩
    obtain ⟨m, rfl⟩ := hn
    refine ⟨_, _, .inl (.inl (.inl ((upd_ne nlb).trans el))), hu, ?_⟩
    generalize upd H9 b (stL p q) = H10 at d10 ⊢
    have hk10 := Known.dr d10 hk3
    refine ⟨lo, _, rfl, rfl, hk10, d10.wf, ?_⟩
    refine ⟨fun v' H'' => v' = .bl (isWholeB v lo (lo + m)) ∧ H10 = H'', ?_, ?_⟩
    · cases v with
      | int n =>
        refine iteC (p := lo ≤ n) (fun h1 => ?_) (fun h1 => ?_)
        · refine ⟨?_, rfl⟩
          show V.bl (decide (n ≤ lo + m)) = V.bl (decide (lo ≤ n) && decide (n ≤ lo + m))
          rw [decide_eq_true h1, Bool.true_and]
        · refine ⟨?_, rfl⟩
          show V.bl false = V.bl (decide (lo ≤ n) && decide (n ≤ lo + m))
          rw [decide_eq_false h1, Bool.false_and]
      | non => exact ⟨rfl, rfl⟩
      | bl _ => exact ⟨rfl, rfl⟩
      | str _ => exact ⟨rfl, rfl⟩
      | ref _ => exact ⟨rfl, rfl⟩
      | byt b => exact hk.elim
      | flt b => exact hk.elim
      | ty b => exact hk.elim
    rintro _ _ ⟨rfl, rfl⟩
    refine ⟨_, _, rfl, rfl, d10.wf, ?_⟩
    refine iteB (fun h => absurd h (by simp)) (fun _ => ?_)
    refine ⟨fun c o e => ?_, d10.wf, _, _, _, _, _, _, _, _, rfl⟩
    have nc : c ≠ b := ne_of_none e nb0
    exact d10.kp c o nc (d3.kp c o nc (d2.kp c o nc (sm1 c o e)))
theorem all_mk {l : PySem.W.OpenLaw} {w : World} {K : PySem.W.Frag} {h : Heap} {mg : Str → Option Value} {fa : Addr} (X : K.In h) (G : h.Ns mainGlobals mg) (hfa : mg "law" = some (.ref fa))
    {f1 : Addr} {od1 an1 : Option Addr} {sl1 : Array (Option Value)} {oc1 kV1 dc1 pm1 cd1 ct1 : Value}
    (a1 : PySem.W.nsIn K mainGlobals "is_name" = some (some (.ref f1))) (l1 : K.lookup f1 = some ⟨oc1, od1, .func (PySem.W.fnOf "is_name" "is_name" (defArgs (topS 4)) (defBody (topS 4)) (defScope (topS 4)) .none kV1 dc1 pm1 an1 cd1 ct1), sl1⟩) (c1 : PySem.W.codeIn K cd1 "is_name" = true) (k1 : PySem.W.keepIn K (.ref f1) = true)
    {f2 : Addr} {od2 an2 : Option Addr} {sl2 : Array (Option Value)} {oc2 kV2 dc2 pm2 cd2 ct2 : Value}
    (a2 : PySem.W.nsIn K mainGlobals "is_whole" = some (some (.ref f2))) (l2 : K.lookup f2 = some ⟨oc2, od2, .func (PySem.W.fnOf "is_whole" "is_whole" (defArgs (topS 5)) (defBody (topS 5)) (defScope (topS 5)) .none kV2 dc2 pm2 an2 cd2 ct2), sl2⟩) (c2 : PySem.W.codeIn K cd2 "is_whole" = true) (k2 : PySem.W.keepIn K (.ref f2) = true)
    {f3 : Addr} {od3 an3 : Option Addr} {sl3 : Array (Option Value)} {oc3 kV3 dc3 pm3 cd3 ct3 : Value}
    (a3 : PySem.W.nsIn K mainGlobals "is_moment" = some (some (.ref f3))) (l3 : K.lookup f3 = some ⟨oc3, od3, .func (PySem.W.fnOf "is_moment" "is_moment" (defArgs (topS 6)) (defBody (topS 6)) (defScope (topS 6)) .none kV3 dc3 pm3 an3 cd3 ct3), sl3⟩) (c3 : PySem.W.codeIn K cd3 "is_moment" = true) (k3 : PySem.W.keepIn K (.ref f3) = true)
    {f4 : Addr} {od4 an4 : Option Addr} {sl4 : Array (Option Value)} {oc4 kV4 dc4 pm4 cd4 ct4 : Value}
    (a4 : PySem.W.nsIn K mainGlobals "_law_cell_at" = some (some (.ref f4))) (l4 : K.lookup f4 = some ⟨oc4, od4, .func (PySem.W.fnOf "_law_cell_at" "_law_cell_at" (defArgs (topS 8)) (defBody (topS 8)) (defScope (topS 8)) .none kV4 dc4 pm4 an4 cd4 ct4), sl4⟩) (c4 : PySem.W.codeIn K cd4 "_law_cell_at" = true) (k4 : PySem.W.keepIn K (.ref f4) = true)
    {f5 : Addr} {od5 an5 : Option Addr} {sl5 : Array (Option Value)} {oc5 kV5 dc5 pm5 cd5 ct5 : Value}
    (a5 : PySem.W.nsIn K mainGlobals "_law_state" = some (some (.ref f5))) (l5 : K.lookup f5 = some ⟨oc5, od5, .func (PySem.W.fnOf "_law_state" "_law_state" (defArgs (topS 9)) (defBody (topS 9)) (defScope (topS 9)) .none kV5 dc5 pm5 an5 cd5 ct5), sl5⟩) (c5 : PySem.W.codeIn K cd5 "_law_state" = true) (k5 : PySem.W.keepIn K (.ref f5) = true)
    {f6 : Addr} {od6 an6 : Option Addr} {sl6 : Array (Option Value)} {oc6 kV6 dc6 pm6 cd6 ct6 : Value}
    (a6 : PySem.W.nsIn K mainGlobals "_law_mixed" = some (some (.ref f6))) (l6 : K.lookup f6 = some ⟨oc6, od6, .func (PySem.W.fnOf "_law_mixed" "_law_mixed" (defArgs (topS 10)) (defBody (topS 10)) (defScope (topS 10)) .none kV6 dc6 pm6 an6 cd6 ct6), sl6⟩) (c6 : PySem.W.codeIn K cd6 "_law_mixed" = true) (k6 : PySem.W.keepIn K (.ref f6) = true)
    {f7 : Addr} {od7 an7 : Option Addr} {sl7 : Array (Option Value)} {oc7 kV7 dc7 pm7 cd7 ct7 : Value}
    (a7 : PySem.W.nsIn K mainGlobals "_law_digit" = some (some (.ref f7))) (l7 : K.lookup f7 = some ⟨oc7, od7, .func (PySem.W.fnOf "_law_digit" "_law_digit" (defArgs (topS 11)) (defBody (topS 11)) (defScope (topS 11)) .none kV7 dc7 pm7 an7 cd7 ct7), sl7⟩) (c7 : PySem.W.codeIn K cd7 "_law_digit" = true) (k7 : PySem.W.keepIn K (.ref f7) = true)
    {f8 : Addr} {od8 an8 : Option Addr} {sl8 : Array (Option Value)} {oc8 kV8 dc8 pm8 cd8 ct8 : Value}
    (a8 : PySem.W.nsIn K mainGlobals "_law_text" = some (some (.ref f8))) (l8 : K.lookup f8 = some ⟨oc8, od8, .func (PySem.W.fnOf "_law_text" "_law_text" (defArgs (topS 12)) (defBody (topS 12)) (defScope (topS 12)) .none kV8 dc8 pm8 an8 cd8 ct8), sl8⟩) (c8 : PySem.W.codeIn K cd8 "_law_text" = true) (k8 : PySem.W.keepIn K (.ref f8) = true)
    {f9 : Addr} {od9 an9 : Option Addr} {sl9 : Array (Option Value)} {oc9 kV9 dc9 pm9 cd9 ct9 : Value}
    (a9 : PySem.W.nsIn K mainGlobals "_law_number" = some (some (.ref f9))) (l9 : K.lookup f9 = some ⟨oc9, od9, .func (PySem.W.fnOf "_law_number" "_law_number" (defArgs (topS 13)) (defBody (topS 13)) (defScope (topS 13)) .none kV9 dc9 pm9 an9 cd9 ct9), sl9⟩) (c9 : PySem.W.codeIn K cd9 "_law_number" = true) (k9 : PySem.W.keepIn K (.ref f9) = true)
    {f10 : Addr} {od10 an10 : Option Addr} {sl10 : Array (Option Value)} {oc10 kV10 dc10 pm10 cd10 ct10 : Value}
    (a10 : PySem.W.nsIn K mainGlobals "_law_thing" = some (some (.ref f10))) (l10 : K.lookup f10 = some ⟨oc10, od10, .func (PySem.W.fnOf "_law_thing" "_law_thing" (defArgs (topS 14)) (defBody (topS 14)) (defScope (topS 14)) .none kV10 dc10 pm10 an10 cd10 ct10), sl10⟩) (c10 : PySem.W.codeIn K cd10 "_law_thing" = true) (k10 : PySem.W.keepIn K (.ref f10) = true)
    {f11 : Addr} {od11 an11 : Option Addr} {sl11 : Array (Option Value)} {oc11 kV11 dc11 pm11 cd11 ct11 : Value}
    (a11 : PySem.W.nsIn K mainGlobals "_law_is_plain" = some (some (.ref f11))) (l11 : K.lookup f11 = some ⟨oc11, od11, .func (PySem.W.fnOf "_law_is_plain" "_law_is_plain" (defArgs (topS 15)) (defBody (topS 15)) (defScope (topS 15)) .none kV11 dc11 pm11 an11 cd11 ct11), sl11⟩) (c11 : PySem.W.codeIn K cd11 "_law_is_plain" = true) (k11 : PySem.W.keepIn K (.ref f11) = true)
    {f12 : Addr} {od12 an12 : Option Addr} {sl12 : Array (Option Value)} {oc12 kV12 dc12 pm12 cd12 ct12 : Value}
    (a12 : PySem.W.nsIn K mainGlobals "_law_is_right" = some (some (.ref f12))) (l12 : K.lookup f12 = some ⟨oc12, od12, .func (PySem.W.fnOf "_law_is_right" "_law_is_right" (defArgs (topS 16)) (defBody (topS 16)) (defScope (topS 16)) .none kV12 dc12 pm12 an12 cd12 ct12), sl12⟩) (c12 : PySem.W.codeIn K cd12 "_law_is_right" = true) (k12 : PySem.W.keepIn K (.ref f12) = true)
    {f13 : Addr} {od13 an13 : Option Addr} {sl13 : Array (Option Value)} {oc13 kV13 dc13 pm13 cd13 ct13 : Value}
    (a13 : PySem.W.nsIn K mainGlobals "law" = some (some (.ref f13))) (l13 : K.lookup f13 = some ⟨oc13, od13, .func (PySem.W.fnOf "law" "law" (defArgs (topS 17)) (defBody (topS 17)) (defScope (topS 17)) .none kV13 dc13 pm13 an13 cd13 ct13), sl13⟩) (c13 : PySem.W.codeIn K cd13 "law" = true) (k13 : PySem.W.keepIn K (.ref f13) = true)
    (z_all : PySem.W.nsIn K mainGlobals "all" = some none)
    (z_isinstance : PySem.W.nsIn K mainGlobals "isinstance" = some none)
    (z_str : PySem.W.nsIn K mainGlobals "str" = some none)
    (z_len : PySem.W.nsIn K mainGlobals "len" = some none)
    (z_int : PySem.W.nsIn K mainGlobals "int" = some none)
    (z_bool : PySem.W.nsIn K mainGlobals "bool" = some none)
    (z_range : PySem.W.nsIn K mainGlobals "range" = some none)
    (z_min : PySem.W.nsIn K mainGlobals "min" = some none)
    {tk_MOST_LETTERS : Tok} (c_MOST_LETTERS : PySem.W.nsIn K mainGlobals "MOST_LETTERS" = some (some (.int 8 tk_MOST_LETTERS)))
    {tk_LETTERS : Tok} (c_LETTERS : PySem.W.nsIn K mainGlobals "LETTERS" = some (some (.str "abcdefghijklmnopqrstuvwxyz" tk_LETTERS)))
    {tk_MOST_MOMENT : Tok} (c_MOST_MOMENT : PySem.W.nsIn K mainGlobals "MOST_MOMENT" = some (some (.int 1000000000000 tk_MOST_MOMENT))) :
    ∃ fd : FuncData, (∀ (s : Shared) (v : Value), BindsTo s fd ⟨[v], []⟩ [("_law_script", v)]) ∧ ∀ base : Heap, K.In base → base.Ns mainGlobals mg → FnOk l.prog w K mg base CX0 5 fa fd ["_law_script"] (sp_law K) := by
  have e := hfa.symm.trans (PySem.W.mg_of X G a13)
  cases e
  have T : Txt K mg := { m_all := PySem.W.mg_none_of X G z_all, m_isinstance := PySem.W.mg_none_of X G z_isinstance, m_str := PySem.W.mg_none_of X G z_str, m_len := PySem.W.mg_none_of X G z_len, m_int := PySem.W.mg_none_of X G z_int, m_bool := PySem.W.mg_none_of X G z_bool, m_range := PySem.W.mg_none_of X G z_range, m_min := PySem.W.mg_none_of X G z_min, g_MOST_LETTERS := ⟨_, PySem.W.mg_of X G c_MOST_LETTERS, ⟨_, rfl⟩⟩, g_LETTERS := ⟨_, PySem.W.mg_of X G c_LETTERS, ⟨_, rfl⟩⟩, g_MOST_MOMENT := ⟨_, PySem.W.mg_of X G c_MOST_MOMENT, ⟨_, rfl⟩⟩, f_is_name := ⟨_, _, PySem.W.mg_of X G a1, fun_mk (st := topS 4) l1 c1 k1, (fun_mk (st := topS 4) l1 c1 k1).binds (ps := ["thing"]) fun _ _ _ _ _ _ us hl => match us, hl with | [_], _ => rfl⟩, f_is_whole := ⟨_, _, PySem.W.mg_of X G a2, fun_mk (st := topS 5) l2 c2 k2, (fun_mk (st := topS 5) l2 c2 k2).binds (ps := ["thing", "low", "high"]) fun _ _ _ _ _ _ us hl => match us, hl with | [_, _, _], _ => rfl⟩, f_is_moment := ⟨_, _, PySem.W.mg_of X G a3, fun_mk (st := topS 6) l3 c3 k3, (fun_mk (st := topS 6) l3 c3 k3).binds (ps := ["thing"]) fun _ _ _ _ _ _ us hl => match us, hl with | [_], _ => rfl⟩, f__law_cell_at := ⟨_, _, PySem.W.mg_of X G a4, fun_mk (st := topS 8) l4 c4 k4, (fun_mk (st := topS 8) l4 c4 k4).binds (ps := ["_law_script", "_law_k"]) fun _ _ _ _ _ _ us hl => match us, hl with | [_, _], _ => rfl⟩, f__law_state := ⟨_, _, PySem.W.mg_of X G a5, fun_mk (st := topS 9) l5 c5 k5, (fun_mk (st := topS 9) l5 c5 k5).binds (ps := ["_law_cell", "_law_k"]) fun _ _ _ _ _ _ us hl => match us, hl with | [_, _], _ => rfl⟩, f__law_mixed := ⟨_, _, PySem.W.mg_of X G a6, fun_mk (st := topS 10) l6 c6 k6, (fun_mk (st := topS 10) l6 c6 k6).binds (ps := ["_law_number_here"]) fun _ _ _ _ _ _ us hl => match us, hl with | [_], _ => rfl⟩, f__law_digit := ⟨_, _, PySem.W.mg_of X G a7, fun_mk (st := topS 11) l7 c7 k7, (fun_mk (st := topS 11) l7 c7 k7).binds (ps := ["_law_state_here", "_law_base"]) fun _ _ _ _ _ _ us hl => match us, hl with | [_, _], _ => rfl⟩, f__law_text := ⟨_, _, PySem.W.mg_of X G a8, fun_mk (st := topS 12) l8 c8 k8, (fun_mk (st := topS 12) l8 c8 k8).binds (ps := ["_law_state_here"]) fun _ _ _ _ _ _ us hl => match us, hl with | [_], _ => rfl⟩, f__law_number := ⟨_, _, PySem.W.mg_of X G a9, fun_mk (st := topS 13) l9 c9 k9, (fun_mk (st := topS 13) l9 c9 k9).binds (ps := ["_law_state_here"]) fun _ _ _ _ _ _ us hl => match us, hl with | [_], _ => rfl⟩, f__law_thing := ⟨_, _, PySem.W.mg_of X G a10, fun_mk (st := topS 14) l10 c10 k10, (fun_mk (st := topS 14) l10 c10 k10).binds (ps := ["_law_state_here"]) fun _ _ _ _ _ _ us hl => match us, hl with | [_], _ => rfl⟩, f__law_is_plain := ⟨_, _, PySem.W.mg_of X G a11, fun_mk (st := topS 15) l11 c11 k11, (fun_mk (st := topS 15) l11 c11 k11).binds (ps := ["_law_thing_here"]) fun _ _ _ _ _ _ us hl => match us, hl with | [_], _ => rfl⟩, f__law_is_right := ⟨_, _, PySem.W.mg_of X G a12, fun_mk (st := topS 16) l12 c12 k12, (fun_mk (st := topS 16) l12 c12 k12).binds (ps := ["_law_told", "_law_due"]) fun _ _ _ _ _ _ us hl => match us, hl with | [_, _], _ => rfl⟩ }
  exact ⟨PySem.W.fnOf "law" "law" (defArgs s_law) (defBody s_law) (defScope s_law) .none kV13 dc13 pm13 an13 cd13 ct13, fun s v => .of_eq rfl, fun base _ _ => ok_law (fun_mk (st := s_law) l13 c13 k13) T⟩
end W
open PySem PySem.W PyProof.Rows
set_option maxRecDepth 100000 in
set_option maxHeartbeats 0 in
theorem PySem.Challenge.cw_rowlent_k01_names_and_moments_holds : PySem.Challenge.rw_rowlent_k01_names_and_moments.Holds := by
  w_on; o_law; k_head; (case hw => w_witness2)
  k_fill
  refine L2.walk_ofK (l := PySem.Challenge.rw_rowlent_k01_names_and_moments) (n := 63) (k := 5) (x := "_law_script") (CX := L2.CX0) (sp := W.sp_law) rfl (by decide) rfl ⟨rfl, by decide, by decide⟩ (fun w h Y => PySem.W.kIn_of Y) ?F (fun _ _ a ns hl hO hS => ⟨ns, ⟨a, rfl, hS, hl⟩, R.wf_only hO, fun _ => rfl⟩) (fun _ _ _ _ h => h)
  case F =>
    intro w mg fa h KX G hmg
    refine' W.all_mk KX G hmg ?a1 ?l1 ?c1 ?k1 ?a2 ?l2 ?c2 ?k2 ?a3 ?l3 ?c3 ?k3 ?a4 ?l4 ?c4 ?k4 ?a5 ?l5 ?c5 ?k5 ?a6 ?l6 ?c6 ?k6 ?a7 ?l7 ?c7 ?k7 ?a8 ?l8 ?c8 ?k8 ?a9 ?l9 ?c9 ?k9 ?a10 ?l10 ?c10 ?k10 ?a11 ?l11 ?c11 ?k11 ?a12 ?l12 ?c12 ?k12 ?a13 ?l13 ?c13 ?k13 ?z_all ?z_isinstance ?z_str ?z_len ?z_int ?z_bool ?z_range ?z_min ?c_MOST_LETTERS ?c_LETTERS ?c_MOST_MOMENT
    (case a1 => k_is)
    (case l1 => k_is)
    (case c1 => k_is)
    (case k1 => k_is)
    (case a2 => k_is)
    (case l2 => k_is)
    (case c2 => k_is)
    (case k2 => k_is)
    (case a3 => k_is)
    (case l3 => k_is)
    (case c3 => k_is)
    (case k3 => k_is)
    (case a4 => k_is)
    (case l4 => k_is)
    (case c4 => k_is)
    (case k4 => k_is)
    (case a5 => k_is)
    (case l5 => k_is)
    (case c5 => k_is)
    (case k5 => k_is)
    (case a6 => k_is)
    (case l6 => k_is)
    (case c6 => k_is)
    (case k6 => k_is)
    (case a7 => k_is)
    (case l7 => k_is)
    (case c7 => k_is)
    (case k7 => k_is)
    (case a8 => k_is)
    (case l8 => k_is)
    (case c8 => k_is)
    (case k8 => k_is)
    (case a9 => k_is)
    (case l9 => k_is)
    (case c9 => k_is)
    (case k9 => k_is)
    (case a10 => k_is)
    (case l10 => k_is)
    (case c10 => k_is)
    (case k10 => k_is)
    (case a11 => k_is)
    (case l11 => k_is)
    (case c11 => k_is)
    (case k11 => k_is)
    (case a12 => k_is)
    (case l12 => k_is)
    (case c12 => k_is)
    (case k12 => k_is)
    (case a13 => k_is)
    (case l13 => k_is)
    (case c13 => k_is)
    (case k13 => k_is)
    (case z_all => k_is)
    (case z_isinstance => k_is)
    (case z_str => k_is)
    (case z_len => k_is)
    (case z_int => k_is)
    (case z_bool => k_is)
    (case z_range => k_is)
    (case z_min => k_is)
    (case c_MOST_LETTERS => k_is)
    (case c_LETTERS => k_is)
    (case c_MOST_MOMENT => k_is)
