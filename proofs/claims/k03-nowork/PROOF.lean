import PyProof.Rows.All
import Wide.All
import OpenK.AllK
import Wide.FinOn
import HandS.ForMost
import HandS.ForExc
import HandS.IsInst
import HandS.Wide
import HandS.Flow
import HandS.Walk
import HandS.Codes
import HandS.Conv
import HandS.WordsExc
import HandS.ExcOwn
import HandS.ExcIs
import HandS.TryOnly
import HandS.TryMany
import HandS.WordsDict
import HandS.Style
import PySem.Challenge.RW_rowlent_k03_what_is_no_work
set_option Elab.async false
set_option linter.all false
set_option maxRecDepth 100000
set_option maxHeartbeats 4000000

namespace R
open PySem PySem.Spec PyProof.Rows L2
/-! ### heaps that may be cut back to what is wanted -/
def Flat : HO → Prop
  | .dT kvs => kvs = []
  | .ins _ _ _ => False
  | .frz _ u => Flat u
  | _ => True
def Wf (H : Hp) : Prop := ∀ a o, H a = some o → Flat o ∨ ∃ C dx fs, o = .ins C dx fs ∧ H dx = some (.own a)
theorem flat_ok {P : Program} {w : World} {H H2 : Hp} {h : Heap} {a : Addr} {o : HO} (f : Flat o) (x : ObjOk P w H h a o) : ObjOk P w H2 h a o := by
  induction o with
  | dT kvs =>
    have e : kvs = [] := f
    subst e
    obtain ⟨z, y, xs, r, q⟩ := x
    cases r
    exact ⟨z, y, [], .nil, q⟩
  | ins C dx fs => exact f.elim
  | frz ob u ih => exact ⟨x.1, ih f x.2⟩
  | lst xs => exact x
  | tup xs => exact x
  | dK kvs => exact x
  | set S n => exact x
  | own y => exact x
  | xd fs => exact x
  | met g y => exact x
  | rng lo hi => exact x
  | tbl ps => exact x
  | ext φ => exact x
/-- H2: what is kept of H' behind a piece of code that began in H -/
structure Back (H H2 H' : Hp) : Prop where
  sub : ∀ a o, H2 a = some o → H' a = some o
  kp : ∀ a o, H a = some o → H2 a = H' a
  wf : Wf H2
theorem Back.refl {H H' : Hp} (w : Wf H') : Back H H' H' := ⟨fun _ _ h => h, fun _ _ _ => rfl, w⟩
theorem Back.hok {P : Program} {w : World} {H H2 H' : Hp} {h : Heap} (b : Back H H2 H') (x : HOk P w H' h) : HOk P w H2 h := fun a o e => by
  have q := x a o (b.sub a o e)
  rcases b.wf a o e with f | ⟨C, dx, fs, rfl, hd⟩
  · exact flat_ok f q
  · obtain ⟨_, z⟩ := q
    exact ⟨hd, z⟩
theorem Back.un {fs ex : List Addr} {H0 H H2 H' : Hp} {h h' : Heap} (b : Back H H2 H') (u0 : ∀ a o, H0 a = some o → (∀ xs, o = .tup xs → H a = some o) ∧ (∀ z y, o = .frz z y → H a = some o) ∧ (∀ ps, o = .tbl ps → ∃ m, H a = some (.tbl m)))
    (u : Un fs ex H0 H' h h') : Un fs ex H0 H2 h h' where
  keep := u.keep
  slot := u.slot
  there := u.there
  free := fun c ob q n hx => by
    have z := u.free c ob q n hx
    cases e : H2 c with
    | none => rfl
    | some x =>
      have y := b.sub c x e
      rw [z] at y
      cases y
  tups := fun c xs q => by
    have z := (u0 c _ q).1 xs rfl
    rw [b.kp c _ z]
    exact u.tups c xs q
  frzs := fun c ob x q => by
    have z := (u0 c _ q).2.1 ob x rfl
    rw [b.kp c _ z]
    exact u.frzs c ob x q
  tbls := fun c ps q => by
    obtain ⟨m, z⟩ := (u0 c _ q).2.2 ps rfl
    rw [b.kp c _ z]
    exact u.tbls c ps q
theorem Back.un0 {fs ex : List Addr} {H H2 H' : Hp} {h h' : Heap} (b : Back H H2 H') (u : Un fs ex H H' h h') : Un fs ex H H2 h h' :=
  b.un (fun a o e => ⟨fun xs r => e, fun _ _ _ => e, fun ps r => ⟨ps, by rw [e, r]⟩⟩) u
theorem Back.ub {fs : List Addr} {H H2 H' : Hp} {h B h' : Heap} (b : Back H H2 H') (u : UB fs H H' h B h') : UB fs H H2 h B h' where
  keep := u.keep
  slot := u.slot
  there := u.there
  free := fun c ob q n => by
    have z := u.free c ob q n
    cases e : H2 c with
    | none => rfl
    | some x =>
      have y := b.sub c x e
      rw [z] at y
      cases y
  tups := fun c xs q => by
    rw [b.kp c _ q]
    exact u.tups c xs q
  frzs := fun c ob x q => by
    rw [b.kp c _ q]
    exact u.frzs c ob x q
  tbls := fun c ps q => by
    rw [b.kp c _ q]
    exact u.tbls c ps q
def bQ (H : Hp) (Q : VK) : VK := fun v H' => ∃ H2, Back H H2 H' ∧ Q v H2
def bE (H : Hp) (E : XK) : XK := fun c d H' => ∃ H2, Back H H2 H' ∧ E c d H2
theorem bQ.mk {H : Hp} {Q : VK} {v : V} {H' : Hp} (w : Wf H') (q : Q v H') : bQ H Q v H' := ⟨H', Back.refl w, q⟩
section
variable {P : Program} {w : World} {K : PySem.W.Frag} {mg : Str → Option Value} {base : Heap} {k : Nat} {f : Addr} {fd : FuncData} {ps : List Str} {sp : Sp}
theorem ce_back {outer : List Env} {H : Hp} {s s' : Shared} {Q : VK} {u : Value} (h : CE outer P w H s (bQ H Q) u s') : CE outer P w H s Q u s' := by
  obtain ⟨v, H', os, bare, un, hok, r, H2, b, q⟩ := h
  exact ⟨v, H2, os, bare, b.un0 un, b.hok hok, r, q⟩
theorem cx_back {outer : List Env} {H : Hp} {s s' : Shared} {E : XK} {u : Value} (h : L2.CX P w outer H s (bE H E) u s') : L2.CX P w outer H s E u s' := by
  obtain ⟨a, B, H', cls, d, e, fl, hok, ub, na, os, ag, H2, b, q⟩ := h
  refine ⟨a, B, H2, cls, d, e, fl, b.hok hok, b.ub ub, ?_, os, ag, q⟩
  cases z : H2 a with
  | none => rfl
  | some x =>
    have y := b.sub a x z
    rw [na] at y
    cases y
/-- a promise over a heap that is cut back -/
def spB (sp : Sp) : Sp := fun vs H Q' E' => ∃ Q E, Q' = bQ H Q ∧ E' = bE H E ∧ sp vs H Q E
theorem fn_backX (F : FnOk P w K mg base (L2.CX P w) k f fd ps (spB sp)) : FnOk P w K mg base (L2.CX P w) k f fd ps sp := by
  refine ⟨fun vs H Q E q => F.len vs H (bQ H Q) (bE H E) ⟨Q, E, rfl, rfl, q⟩, fun A outer s H args us vs Q E hr he hb hv hs => ?_⟩
  refine codeAny_mono (F.run A outer s H args us vs (bQ H Q) (bE H E) hr he hb hv ⟨Q, E, rfl, rfl, hs⟩) fun r s' hq => ?_
  cases r with
  | error e => exact cx_back hq
  | ok fl =>
    cases fl with
    | ret u => exact ce_back hq
    | next => exact hq
    | brk => exact hq
    | cont => exact hq
theorem fn_back (F : FnOk P w K mg base CX0 k f fd ps (spB sp)) : FnOk P w K mg base CX0 k f fd ps sp := by
  refine ⟨fun vs H Q E q => F.len vs H (bQ H Q) (bE H E) ⟨Q, E, rfl, rfl, q⟩, fun A outer s H args us vs Q E hr he hb hv hs => ?_⟩
  refine codeAny_mono (F.run A outer s H args us vs (bQ H Q) (bE H E) hr he hb hv ⟨Q, E, rfl, rfl, hs⟩) fun r s' hq => ?_
  cases r with
  | error e => exact hq
  | ok fl =>
    cases fl with
    | ret u => exact ce_back hq
    | next => exact hq
    | brk => exact hq
    | cont => exact hq
end
/-- a def that raises nothing, by its body; the heap behind it cut back -/
theorem ok0 {P : Program} {w : World} {K : PySem.W.Frag} {mg : Str → Option Value} {base : Heap} {x qual : Str} {st : Stmt} {f : Addr} {fd : FuncData} {N ps : List Str} {k : Nat} {sp : Sp} (F : Fun K x qual st f fd) (S : FnScope N ps (defScope st)) (len : ∀ vs H Q E, sp vs H Q E → vs.length = ps.length)
    (hbody : ∀ (cdv : Value) (A : Around) (outer : List Env) (s : Shared) (H : Hp) (vs : List V) (Q : VK) (E : XK), Room k (A.deeper (envOfC qual (defScope st) s.heap.objs.size f cdv)) → sp vs H Q E →
      ∃ t, PSs (cxOf CX0 P w K mg base N qual (defScope st) f cdv A outer s H E).nox (defBody st) t ∧ t { nx := fun _ H' => bQ H Q .non H', rt := bQ H Q } (start N vs) H) : FnOk P w K mg base CX0 (k + 1) f fd ps sp := by
  refine fn_back (F.ok S (fun vs H Q E h => ?_) fun cdv A outer s H vs Q' E' hr h => ?_)
  · obtain ⟨Q, E, _, _, q⟩ := h
    exact len vs H Q E q
  · obtain ⟨Q, E, rfl, rfl, q⟩ := h
    exact hbody cdv A outer s H vs Q E hr q
/-- .. that may raise -/
theorem okX {P : Program} {w : World} {K : PySem.W.Frag} {mg : Str → Option Value} {base : Heap} {x qual : Str} {st : Stmt} {f : Addr} {fd : FuncData} {N ps : List Str} {k : Nat} {sp : Sp} (F : Fun K x qual st f fd) (S : FnScope N ps (defScope st)) (len : ∀ vs H Q E, sp vs H Q E → vs.length = ps.length)
    (hbody : ∀ (cdv : Value) (A : Around) (outer : List Env) (s : Shared) (H : Hp) (vs : List V) (Q : VK) (E : XK), Room k (A.deeper (envOfC qual (defScope st) s.heap.objs.size f cdv)) → sp vs H Q E →
      ∃ t, PSs (cxOf (L2.CX P w) P w K mg base N qual (defScope st) f cdv A outer s H (bE H E)) (defBody st) t ∧ t { nx := fun _ H' => bQ H Q .non H', rt := bQ H Q } (start N vs) H) : FnOk P w K mg base (L2.CX P w) (k + 1) f fd ps sp := by
  refine fn_backX (F.okX S (fun vs H Q E h => ?_) fun cdv A outer s H vs Q' E' hr h => ?_)
  · obtain ⟨Q, E, _, _, q⟩ := h
    exact len vs H Q E q
  · obtain ⟨Q, E, rfl, rfl, q⟩ := h
    exact hbody cdv A outer s H vs Q E hr q
section
variable {X : Cx}
/-- the heap behind an expression, a block, cut back -/
def tBack (t : TE) : TE := fun σ H Q => t σ H (bQ H Q)
theorem inv_back {pins : List (Addr × Obj)} {σ : L2.St} {σ0 : L2.St} {H H2 H' : Hp} {s s0 : Shared} (I0 : Inv X pins σ0 H s0) (b : Back H H2 H') (I : Inv X pins σ H' s) : Inv X pins σ H2 s := by
  have fr : ∀ c, H' c = none → H2 c = none := fun c z => by
    cases e : H2 c with
    | none => rfl
    | some x =>
      have y := b.sub c x e
      rw [z] at y
      cases y
  refine ⟨I.ok, I.os, I.bare, b.un (fun a o e => ⟨fun xs r => ?_, fun z y r => ?_, fun ps r => ?_⟩) I.base, I.loc, I.cell, fr _ I.free, fun x c e => fr _ (I.freeC x c e), fun p hp => ?_, b.hok I.hok, I.len⟩
  · subst r
    exact I0.base.tups a xs e
  · subst r
    exact I0.base.frzs a z y e
  · subst r
    obtain ⟨m, h⟩ := I0.base.tbls a ps e
    exact ⟨_, h⟩
  · obtain ⟨a1, a2, a3⟩ := I.pin p hp
    exact ⟨a1, fr _ a2, a3⟩
theorem pe_back {e : Expr} {t : TE} (h : PE X e t) : PE X e (tBack t) := by
  refine ⟨fun pins s σ H Q I q => ?_⟩
  refine thn (h.run pins s σ H _ I q) fun u s1 z => ?_
  obtain ⟨v, H1, I1, r1, H2, b, q2⟩ := z
  exact ⟨v, H2, inv_back I b I1, r1, q2⟩
def bD (H : Hp) (D : Ends) : Ends := { nx := fun σ H' => ∃ H2, Back H H2 H' ∧ D.nx σ H2, rt := bQ H D.rt, bk := fun σ H' => ∃ H2, Back H H2 H' ∧ D.bk σ H2, ct := fun σ H' => ∃ H2, Back H H2 H' ∧ D.ct σ H2 }
def sBack (t : TS) : TS := fun D σ H => t (bD H D) σ H
theorem sp_back {pins : List (Addr × Obj)} {σ : L2.St} {H : Hp} {D : Ends} {s s1 : Shared} {f : Flow} (I : Inv X pins σ H s) (z : SP X pins (bD H D) f s1) : SP X pins D f s1 := by
  cases f with
  | next =>
    obtain ⟨σ', H', I', H2, b, q⟩ := z
    exact ⟨σ', H2, inv_back I b I', q⟩
  | brk =>
    obtain ⟨σ', H', I', H2, b, q⟩ := z
    exact ⟨σ', H2, inv_back I b I', q⟩
  | cont =>
    obtain ⟨σ', H', I', H2, b, q⟩ := z
    exact ⟨σ', H2, inv_back I b I', q⟩
  | ret u =>
    obtain ⟨v, σ', H', I', r, H2, b, q⟩ := z
    exact ⟨v, σ', H2, inv_back I b I', r, q⟩
theorem pss_back {b : List Stmt} {t : TS} (h : PSs X b t) : PSs X b (sBack t) := ⟨fun pins s σ H D I q => thn (h.run pins s σ H _ I q) fun _ _ z => sp_back I z⟩
theorem ps_back {b : Stmt} {t : TS} (h : PS X b t) : PS X b (sBack t) := ⟨fun pins s σ H D I q => thn (h.run pins s σ H _ I q) fun _ _ z => sp_back I z⟩
end
end R
namespace R
open PySem PySem.Spec PyProof.Rows L2
/-! ### readings that reckon: what can be seen is done by whnf, what is left stands as a want -/
theorem imp_e {X : Cx} {e : Expr} {t t' : TE} (h : PE X e t) (i : ∀ σ H Q, t' σ H Q → t σ H Q) : PE X e t' := ⟨fun pins s σ H Q I q => h.run pins s σ H Q I (i σ H Q q)⟩
theorem imp_t {X : Cx} {e : Expr} {t t' : TT} (h : PT X e t) (i : ∀ σ H Q, t' σ H Q → t σ H Q) : PT X e t' := ⟨fun pins s σ H Q I q => h.run pins s σ H Q I (i σ H Q q)⟩
theorem imp_s {X : Cx} {e : Stmt} {t t' : TS} (h : PS X e t) (i : ∀ D σ H, t' D σ H → t D σ H) : PS X e t' := ⟨fun pins s σ H D I q => h.run pins s σ H D I (i D σ H q)⟩
theorem imp_o {X : Cx} {f : Value → Value → Sem Value} {r r' : R2} (h : OpR X f r) (i : ∀ x y H Q, r' x y H Q → r x y H Q) : OpR X f r' := fun pins s σ H x y v u Q I rx ry q => h pins s σ H x y v u Q I rx ry (i x y H Q q)
theorem imp_c {X : Cx} {f : Value} {r r' : List V → Hp → VK → Prop} (h : CallR X f r) (i : ∀ xs H Q, r' xs H Q → r xs H Q) : CallR X f r' := fun pins s σ H xs us Q I rx q => h pins s σ H xs us Q I rx (i xs H Q q)
theorem imp_g {X : Cx} {e : Expr} {t t' : TG} (h : PG X e t) (i : ∀ v σ H Q, t' v σ H Q → t v σ H Q) : PG X e t' := ⟨fun pins s σ H v u Q I r q => h.run pins s σ H v u Q I r (i v σ H Q q)⟩
/-- a name -/
def cVar (i : Nat) : TE := fun σ H Q => match σ[i]? with | some (some v) => Q v H | _ => False
theorem lv {X : Cx} (i : Nat) {x : Str} {pos : Pos} (hN : X.N[i]? = some x := by rfl) (hv : Vis X.env.scope x := by first | exact Or.inl rfl | exact Or.inr (Or.inl rfl) | exact Or.inr (Or.inr rfl)) (hd : (x == ("__debug__" : Str)) = false := by decide)
    (hcd : (x == ("__classdict__" : Str)) = false := by decide) : PE X (.Name x pos) (cVar i) := imp_e (pe_var hN hv hd hcd) fun σ H Q q => by
  unfold cVar at q
  split at q
  · rename_i v e
    exact ⟨v, e, q⟩
  · exact q.elim
/-- a name of the module's top -/
def GlV (mg : Str → Option Value) (x : Str) (v : V) : Prop := ∃ u, mg x = some u ∧ RelV v u
theorem pe_g {X : Cx} {x : Str} {v : V} {pos : Pos} (h : GlV X.mg x v) (hg : Gl X x := by rfl) (hd : (x == ("__debug__" : Str)) = false := by decide) : PE X (.Name x pos) (tC v) := by
  obtain ⟨u, h1, h2⟩ := h
  exact pe_glob hg h1 h2 hd
/-- tests -/
def cTest (t : TE) : TT := fun σ H Q => t σ H fun x H' => match x with | .bl k => Q k H' | _ => False
section
variable {X : Cx} {a b c e : Expr} {ta tb tc te : TE} {tt : TT} {rest : List Expr} {pos : Pos}
theorem imp_Q {X : Cx} {e : Expr} {t : TE} {R R' : V → Hp → Prop} : True := trivial
end
/-- a reading that may be weakened at its end -/
def Mono (t : TE) : Prop := ∀ σ H (Q Q' : VK), (∀ v H', Q v H' → Q' v H') → t σ H Q → t σ H Q'
theorem run_mono {X : Cx} {e : Expr} {t : TE} (h : PE X e t) {t' : TE} (i : ∀ σ H Q, t' σ H Q → ∃ Q0 : VK, (∀ v H', Q0 v H' → Q v H') ∧ t σ H Q0) : PE X e t' := ⟨fun pins s σ H Q I q => by
  obtain ⟨Q0, w, z⟩ := i σ H Q q
  exact thn (h.run pins s σ H Q0 I z) fun u s1 ⟨v, H1, I1, r, q1⟩ => ⟨v, H1, I1, r, w v H1 q1⟩⟩
theorem run_monoT {X : Cx} {e : Expr} {t : TT} (h : PT X e t) {t' : TT} (i : ∀ σ H Q, t' σ H Q → ∃ Q0 : Bool → Hp → Prop, (∀ v H', Q0 v H' → Q v H') ∧ t σ H Q0) : PT X e t' := ⟨fun pins s σ H Q I q => by
  obtain ⟨Q0, w, z⟩ := i σ H Q q
  exact thn (h.run pins s σ H Q0 I z) fun u s1 ⟨H1, I1, q1⟩ => ⟨H1, I1, w u H1 q1⟩⟩
section
variable {X : Cx} {a b c e : Expr} {ta tb tc te : TE} {tt : TT} {rest : List Expr} {pos : Pos}
theorem testM {Q : Bool → Hp → Prop} : ∀ (v : V) (H' : Hp), (match v with | .bl k => Q k H' | _ => False) → ∃ k, v = .bl k ∧ Q k H'
  | .bl k, _, q => ⟨k, rfl, q⟩
  | .non, _, q => q.elim
  | .int _, _, q => q.elim
  | .str _, _, q => q.elim
  | .byt _, _, q => q.elim
  | .flt _, _, q => q.elim
  | .ref _, _, q => q.elim
  | .ty _, _, q => q.elim
/-- an expression that gives a bool, as a test -/
theorem pt_cmpU {op : CmpOp} {r : R2} (ho : OpR X (compareOp op) r) (ha : PE X a ta) (hb : PE X b tb) (hm : behindInMarks op b = false) : PT X (.Compare a [op] [b] pos) (cTest (tOp r ta tb)) := by
  refine ⟨fun pins s σ H Q I q => ?_⟩
  have ho' : OpR X (compareOp op) (fun x y H Q => ∃ Q0 : VK, (∀ v H', Q0 v H' → Q v H') ∧ r x y H Q0) := by
    intro pins s σ H x y v u Q I rx ry h
    obtain ⟨Q0, w, z⟩ := h
    exact thn (ho pins s σ H x y v u Q0 I rx ry z) fun u s1 ⟨v, H1, I1, r, q1⟩ => ⟨v, H1, I1, r, w v H1 q1⟩
  have ha' : PE X a (fun σ H Q => ∃ Q0 : VK, (∀ v H', Q0 v H' → Q v H') ∧ ta σ H Q0) := run_mono ha fun _ _ _ z => z
  have hb' : PE X b (fun σ H Q => ∃ Q0 : VK, (∀ v H', Q0 v H' → Q v H') ∧ tb σ H Q0) := run_mono hb fun _ _ _ z => z
  refine (pt_cmpR ho' ha' hb' hm).run pins s σ H Q I ?_
  exact ⟨_, fun x H1 z => ⟨_, fun y H2 z2 => ⟨_, fun v H3 z3 => testM v H3 z3, z2⟩, z⟩, q⟩
def cChain (r r' : R2) (ta tb tc : TE) : TE := fun σ H Q => ta σ H fun x H1 => tb σ H1 fun y H2 => r x y H2 fun z H3 => match z with
  | .bl k => if k = true then tc σ H3 fun w' H4 => r' y w' H4 Q else Q (.bl false) H3
  | _ => False
theorem chM {A : Bool → Hp → Prop} : ∀ (v : V) (H' : Hp), (match v with | .bl k => A k H' | _ => False) → ∃ k, v = .bl k ∧ A k H' := fun v H' q => testM v H' q
theorem mono_o {f : Value → Value → Sem Value} {r : R2} (ho : OpR X f r) : OpR X f (fun x y H Q => ∃ Q0 : VK, (∀ v H', Q0 v H' → Q v H') ∧ r x y H Q0) := by
  intro pins s σ H x y v u Q I rx ry h
  obtain ⟨Q0, w, z⟩ := h
  exact thn (ho pins s σ H x y v u Q0 I rx ry z) fun u s1 ⟨v, H1, I1, r, q1⟩ => ⟨v, H1, I1, r, w v H1 q1⟩
theorem mono_e {e : Expr} {t : TE} (h : PE X e t) : PE X e (fun σ H Q => ∃ Q0 : VK, (∀ v H', Q0 v H' → Q v H') ∧ t σ H Q0) := run_mono h fun _ _ _ z => z
theorem mono_t {e : Expr} {t : TT} (h : PT X e t) : PT X e (fun σ H Q => ∃ Q0 : Bool → Hp → Prop, (∀ v H', Q0 v H' → Q v H') ∧ t σ H Q0) := run_monoT h fun _ _ _ z => z
theorem pe_chainU {op op' : CmpOp} {r r' : R2} (ho : OpR X (compareOp op) r) (ho' : OpR X (compareOp op') r') (ha : PE X a ta) (hb : PE X b tb) (hc : PE X c tc)
    (hm : lastMarks [op, op'] [b, c] = false := by with_unfolding_all rfl) : PE X (.Compare a [op, op'] [b, c] pos) (cChain r r' ta tb tc) :=
  imp_e (pe_chain (mono_o ho) ho' (mono_e ha) (mono_e hb) hc hm) fun σ H Q q => ⟨_, fun x H1 z => ⟨_, fun y H2 z2 => ⟨_, fun v H3 z3 => testM (Q := fun k H3 => if k = true then tc σ H3 fun w' H4 => r' y w' H4 Q else Q (.bl false) H3) v H3 z3, z2⟩, z⟩, q⟩
theorem pt_chainU {op op' : CmpOp} {r r' : R2} (ho : OpR X (compareOp op) r) (ho' : OpR X (compareOp op') r') (ha : PE X a ta) (hb : PE X b tb) (hc : PE X c tc)
    (hm : lastMarks [op, op'] [b, c] = false := by with_unfolding_all rfl) : PT X (.Compare a [op, op'] [b, c] pos) (cTest (cChain r r' ta tb tc)) := by
  refine imp_t (pt_chain (mono_o ho) (mono_o ho') (mono_e ha) (mono_e hb) (mono_e hc) hm) fun σ H Q q => ?_
  refine ⟨_, fun x H1 z => ⟨_, fun y H2 z2 => ⟨_, fun v H3 z3 => ?_, z2⟩, z⟩, q⟩
  obtain ⟨k, e, z4⟩ := testM (Q := fun k H3 => if k = true then tc σ H3 fun w' H4 => r' y w' H4 _ else _) v H3 z3
  refine ⟨k, e, ?_⟩
  cases k with
  | true =>
    rw [if_pos rfl] at z4 ⊢
    exact ⟨_, fun w' H4 z5 => ⟨_, fun v H5 z6 => testM v H5 z6, z5⟩, z4⟩
  | false =>
    rw [if_neg Bool.false_ne_true] at z4 ⊢
    exact ⟨false, rfl, z4⟩
/-- a value's truth -/
def cTru (K : PySem.W.Frag) (x : V) (H : Hp) (Q : Bool → Hp → Prop) : Prop := match x with
  | .non => Q false H
  | .bl b => Q b H
  | .int i => Q (i != 0) H
  | .str y => y.length ≤ sizeLine ∧ Q ((y.length : Int) != 0) H
  | .ref p => ∃ k, TruV K (.ref p) H k ∧ Q k H
  | _ => False
theorem cTru.ex {K : PySem.W.Frag} {x : V} {H : Hp} {Q : Bool → Hp → Prop} (h : cTru K x H Q) : ∃ k, TruV K x H k ∧ Q k H := by
  cases x with
  | non => exact ⟨false, rfl, h⟩
  | bl b => exact ⟨b, rfl, h⟩
  | int i => exact ⟨_, rfl, h⟩
  | str y => exact ⟨_, ⟨h.1, rfl⟩, h.2⟩
  | ref p => exact h
  | byt _ => exact h.elim
  | flt _ => exact h.elim
  | ty _ => exact h.elim
def cAnd (K : PySem.W.Frag) (ta tb : TE) : TE := fun σ H Q => ta σ H fun x H1 => cTru K x H1 fun k H1 => if k = true then tb σ H1 Q else Q x H1
def cOr (K : PySem.W.Frag) (ta tb : TE) : TE := fun σ H Q => ta σ H fun x H1 => cTru K x H1 fun k H1 => if k = true then Q x H1 else tb σ H1 Q
def cNot (K : PySem.W.Frag) (ta : TE) : TE := fun σ H Q => ta σ H fun x H1 => cTru K x H1 fun k H1 => Q (.bl (!k)) H1
def cTruth (K : PySem.W.Frag) (ta : TE) : TT := fun σ H Q => ta σ H fun x H1 => cTru K x H1 Q
theorem cTru.at {K : PySem.W.Frag} {x : V} {H : Hp} {Q : Bool → Hp → Prop} (h : cTru K x H Q) : ∃ k, TruV K x H k ∧ Q k H := h.ex
theorem pe_andU {K : PySem.W.Frag} (ha : PE X a ta) (hb : PE X (.BoolOp .And (b :: rest) pos) tb) (hK : X.K = K := by rfl) : PE X (.BoolOp .And (a :: b :: rest) pos) (cAnd K ta tb) :=
  hK ▸ imp_e (pe_andT (mono_e ha) hb) fun σ H Q q => ⟨_, fun x H1 z => (cTru.at z : ∃ k, TruV X.K x H1 k ∧ if k = true then tb σ H1 Q else Q x H1), q⟩
theorem pe_orU {K : PySem.W.Frag} (ha : PE X a ta) (hb : PE X (.BoolOp .Or (b :: rest) pos) tb) (hK : X.K = K := by rfl) : PE X (.BoolOp .Or (a :: b :: rest) pos) (cOr K ta tb) :=
  hK ▸ imp_e (pe_orT (mono_e ha) hb) fun σ H Q q => ⟨_, fun x H1 z => (cTru.at z : ∃ k, TruV X.K x H1 k ∧ if k = true then Q x H1 else tb σ H1 Q), q⟩
theorem pe_notU {K : PySem.W.Frag} (ha : PE X a ta) (hK : X.K = K := by rfl) : PE X (.UnaryOp .Not a pos) (cNot K ta) :=
  hK ▸ imp_e (pe_notT (mono_e ha)) fun σ H Q q => ⟨_, fun x H1 z => (cTru.at z : ∃ k, TruV X.K x H1 k ∧ Q (.bl (!k)) H1), q⟩
theorem pt_truthU {K : PySem.W.Frag} (ha : PE X a ta) (he : ∀ whole, isTrue a X.env whole = (do let v ← whole; standAt a.pos; holding [v] (truthy v))) (hK : X.K = K := by rfl) : PT X a (cTruth K ta) :=
  hK ▸ imp_t (pt_truth (mono_e ha) he) fun σ H Q q => ⟨_, fun x H1 z => (cTru.at z : ∃ k, TruV X.K x H1 k ∧ Q k H1), q⟩
end
/-! ### operators -/
section
variable {X : Cx}
def rAddU (K : PySem.W.Frag) : R2 := fun x y H Q => match x, y with
  | .int i, .int j => Q (.int (i + j)) H
  | .str a, .str b => a.length + b.length ≤ sizeLine ∧ Q (.str (a ++ b)) H
  | .ref a, .ref b => rCat (.ref a) (.ref b) H Q ∨ rCatT K (.ref a) (.ref b) H Q
  | _, _ => False
theorem opU_add {K : PySem.W.Frag} (hK : X.K = K := by rfl) : OpR X (binaryOp .Add) (rAddU K) := hK ▸ imp_o (op_add.or (op_add_str.or (op_cat.or op_catT))) fun x y H Q q => by
  unfold rAddU at q
  split at q
  · exact .inl ⟨_, _, rfl, rfl, q⟩
  · exact .inr (.inl ⟨_, _, rfl, rfl, q.1, q.2⟩)
  · exact .inr (.inr q)
  · exact q.elim
def rSubU : R2 := fun x y H Q => match x, y with
  | .int i, .int j => Q (.int (i - j)) H
  | _, _ => False
theorem opU_sub : OpR X (binaryOp .Sub) rSubU := imp_o op_sub fun x y H Q q => by
  unfold rSubU at q
  split at q
  · exact ⟨_, _, rfl, rfl, q⟩
  · exact q.elim
def rMulU : R2 := fun x y H Q => match x, y with
  | .int i, .int j => (CMul i j ∨ CMulW i j) ∧ Q (.int (i * j)) H
  | .ref a, .int k => rRep (.ref a) (.int k) H Q
  | _, _ => False
theorem opU_mul : OpR X (binaryOp .Mult) rMulU := imp_o (op_mul.or (op_mulW.or op_rep)) fun x y H Q q => by
  unfold rMulU at q
  split at q
  · rcases q.1 with c | c
    · exact .inl ⟨_, _, rfl, rfl, c, q.2⟩
    · exact .inr (.inl ⟨_, _, rfl, rfl, c, q.2⟩)
  · exact .inr (.inr q)
  · exact q.elim
def rModU : R2 := fun x y H Q => match x, y with
  | .int i, .int j => 0 < j ∧ Q (.int (i % j)) H
  | _, _ => False
theorem opU_mod : OpR X (binaryOp .Mod) rModU := imp_o op_mod fun x y H Q q => by
  unfold rModU at q
  split at q
  · exact ⟨_, _, rfl, rfl, q.1, q.2⟩
  · exact q.elim
def rDivU : R2 := fun x y H Q => match x, y with
  | .int i, .int j => CDivW i j ∧ Q (.int (i / j)) H
  | _, _ => False
theorem opU_div : OpR X (binaryOp .FloorDiv) rDivU := imp_o op_fdivW fun x y H Q q => by
  unfold rDivU at q
  split at q
  · exact ⟨_, _, rfl, rfl, q.1, q.2⟩
  · exact q.elim
def rPowU : R2 := fun x y H Q => match x, y with
  | .int i, .int j => CPow i j ∧ Q (.int (i ^ j.toNat)) H
  | _, _ => False
theorem opU_pow : OpR X (binaryOp .Pow) rPowU := imp_o op_pow fun x y H Q q => by
  unfold rPowU at q
  split at q
  · exact ⟨_, _, rfl, rfl, q.1, q.2⟩
  · exact q.elim
def rNegU : V → Hp → VK → Prop := fun x H Q => match x with
  | .int i => Q (.int (-i)) H
  | _ => False
theorem unU_neg : UnR X (unaryOp .USub) rNegU := fun pins s σ H x v Q I rx q => un_neg pins s σ H x v Q I rx (by
  unfold rNegU at q
  split at q
  · exact ⟨_, rfl, q⟩
  · exact q.elim)
/-- order -/
def rOrd (f : Int → Int → Bool) (g : List Nat → List Nat → Bool) : R2 := fun x y H Q => match x, y with
  | .int i, .int j => Q (.bl (f i j)) H
  | .str a, .str b => Q (.bl (g a.cps.toList b.cps.toList)) H
  | _, _ => False
theorem opU_lt : OpR X (compareOp .Lt) (rOrd (fun i j => decide (i < j)) fun a b => decide (a < b)) := imp_o (op_lt.or op_lt_str) fun x y H Q q => by
  unfold rOrd at q
  split at q
  · exact .inl ⟨_, _, rfl, rfl, q⟩
  · exact .inr ⟨_, _, rfl, rfl, q⟩
  · exact q.elim
def rLeU : R2 := fun x y H Q => match x, y with
  | .int i, .int j => Q (.bl (decide (i ≤ j))) H
  | .str a, .str b => Q (.bl (!decide (b.cps.toList < a.cps.toList))) H
  | _, _ => False
theorem opU_le : OpR X (compareOp .LtE) rLeU := imp_o (op_le.or op_le_str) fun x y H Q q => by
  unfold rLeU at q
  split at q
  · exact .inl ⟨_, _, rfl, rfl, q⟩
  · exact .inr ⟨_, _, rfl, rfl, q⟩
  · exact q.elim
def rGtU : R2 := fun x y H Q => match x, y with
  | .int i, .int j => Q (.bl (decide (j < i))) H
  | _, _ => False
theorem opU_gt : OpR X (compareOp .Gt) rGtU := imp_o op_gt fun x y H Q q => by
  unfold rGtU at q
  split at q
  · exact ⟨_, _, rfl, rfl, q⟩
  · exact q.elim
def rGeU : R2 := fun x y H Q => match x, y with
  | .int i, .int j => Q (.bl (decide (j ≤ i))) H
  | _, _ => False
theorem opU_ge : OpR X (compareOp .GtE) rGeU := imp_o op_ge fun x y H Q q => by
  unfold rGeU at q
  split at q
  · exact ⟨_, _, rfl, rfl, q⟩
  · exact q.elim
/-- == -/
def rEqU (K : PySem.W.Frag) : R2 := fun x y H Q => match scal x y with | true => Q (.bl (decide (x = y))) H | false => rEqD K x y H Q
def rNeU (K : PySem.W.Frag) : R2 := fun x y H Q => match scal x y with | true => Q (.bl (!decide (x = y))) H | false => rNeD K x y H Q
theorem roomU {k : Nat} {A : Around} (r : Room k A) : A.units + 64 < cLine := by have := r.un; omega
theorem opU_eq {K : PySem.W.Frag} {k : Nat} (r : Room k X.A) (hK : X.K = K := by rfl) : OpR X (compareOp .Eq) (rEqU K) := hK ▸ imp_o (op_eq.or (op_eqD (roomU r))) fun x y H Q q => by
  unfold rEqU at q
  split at q
  · rename_i e
    exact .inl ⟨e, q⟩
  · exact .inr q
theorem opU_ne {K : PySem.W.Frag} {k : Nat} (r : Room k X.A) (hK : X.K = K := by rfl) : OpR X (compareOp .NotEq) (rNeU K) := hK ▸ imp_o (op_ne.or (op_neD (roomU r))) fun x y H Q q => by
  unfold rNeU at q
  split at q
  · rename_i e
    exact .inl ⟨e, q⟩
  · exact .inr q
def rIsU (n : Bool) : R2 := fun x y H Q => match y with
  | .non => Q (.bl (n != decide (x = .non))) H
  | .bl b => (match x with | .bl a => Q (.bl (n != decide (a = b))) H | _ => False)
  | _ => False
theorem opU_is : OpR X (compareOp .Is) (rIsU false) := imp_o (op_isN.or op_isBl) fun x y H Q q => by
  unfold rIsU at q
  split at q
  · exact .inl ⟨rfl, by simpa using q⟩
  · split at q
    · exact .inr ⟨_, _, rfl, rfl, by simpa using q⟩
    · exact q.elim
  · exact q.elim
theorem opU_isnot : OpR X (compareOp .IsNot) (rIsU true) := imp_o (op_notN.or op_notBl) fun x y H Q q => by
  unfold rIsU at q
  split at q
  · exact .inl ⟨rfl, by simpa using q⟩
  · split at q
    · exact .inr ⟨_, _, rfl, rfl, by simpa using q⟩
    · exact q.elim
  · exact q.elim
/-- in -/
def rInU (K : PySem.W.Frag) (n : Bool) : R2 := fun x y H Q => match y with
  | .str z => (match x with
    | .str s => ∃ c, s = ⟨#[c]⟩ ∧ (match n with | true => Q (.bl (!decide (c ∈ z.cps.toList))) H | false => Q (.bl (decide (c ∈ z.cps.toList))) H)
    | _ => False)
  | .ref p => ∃ xs, (SqL K H p xs ∨ SqT K H p xs) ∧ flatV x = true ∧ xs.all flatV = true ∧ (match n with | true => Q (.bl (!inV x xs)) H | false => Q (.bl (inV x xs)) H)
  | _ => False
theorem opU_in {K : PySem.W.Frag} (hK : X.K = K := by rfl) : OpR X (compareOp .In) (rInU K false) := hK ▸ imp_o (op_in_sign.or op_in_seq) fun x y H Q q => by
  unfold rInU at q
  split at q
  · split at q
    · obtain ⟨c, rfl, q⟩ := q
      exact .inl ⟨c, _, rfl, rfl, q⟩
    · exact q.elim
  · obtain ⟨xs, h1, h2, h3, q⟩ := q
    exact .inr ⟨_, xs, rfl, h1, h2, h3, q⟩
  · exact q.elim
theorem opU_notin {K : PySem.W.Frag} (hK : X.K = K := by rfl) : OpR X (compareOp .NotIn) (rInU K true) := hK ▸ imp_o (op_notIn_sign.or op_notIn_seq) fun x y H Q q => by
  unfold rInU at q
  split at q
  · split at q
    · obtain ⟨c, rfl, q⟩ := q
      exact .inl ⟨c, _, rfl, rfl, q⟩
    · exact q.elim
  · obtain ⟨xs, h1, h2, h3, q⟩ := q
    exact .inr ⟨_, xs, rfl, h1, h2, h3, q⟩
  · exact q.elim
/-- x[i] -/
def rIxU (K : PySem.W.Frag) : R2 := fun x y H Q => match x, y with
  | .str z, .int i => z.length ≤ sizeLine ∧ ∃ c, atI z.cps.toList i = some c ∧ Q (.str ⟨#[c]⟩) H
  | .ref p, .int i => ∃ xs v, (SqL K H p xs ∨ SqT K H p xs) ∧ atI xs i = some v ∧ Q v H
  | _, _ => False
theorem ixU {K : PySem.W.Frag} (hK : X.K = K := by rfl) : IxR X (rIxU K) := by
  subst hK
  intro value slice pins s σ H x y v u Q I rx ry q hs
  refine ix_seq value slice pins s σ H x y v u Q I rx ry ?_ hs
  unfold rIxU at q
  split at q
  · obtain ⟨h1, c, h2, q⟩ := q
    exact .inr (.inr ⟨_, _, c, rfl, rfl, h1, h2, q⟩)
  · obtain ⟨xs, w, h1 | h1, h2, q⟩ := q
    · exact .inl ⟨_, xs, _, w, rfl, rfl, h1, h2, q⟩
    · exact .inr (.inl ⟨_, xs, _, w, rfl, rfl, h1, h2, q⟩)
  · exact q.elim
/-- x[i:j] -/
def rSlU (K : PySem.W.Frag) : V → Option Int → Option Int → Hp → VK → Prop := fun x lo hi H Q => match x with
  | .str z => z.length ≤ sizeLine ∧ Q (.str (cutS z lo hi)) H
  | .ref p => rSlL K (.ref p) lo hi H Q ∨ rSlT K (.ref p) lo hi H Q
  | _ => False
theorem slU {K : PySem.W.Frag} (hK : X.K = K := by rfl) : SlR X (rSlU K) := by
  subst hK
  intro pins s σ H x v vl vu lo hi sl Q I rx hs pl pu q
  refine (sl_str.or (sl_list.or sl_tup)) pins s σ H x v vl vu lo hi sl Q I rx hs pl pu ?_
  unfold rSlU at q
  split at q
  · exact .inl ⟨_, rfl, q.1, q.2⟩
  · exact .inr q
  · exact q.elim
def cPart (t : TE) : TO := fun σ H Q => t σ H fun x H1 => match x with | .int i => Q (some i) H1 | _ => False
theorem imp_po {e : Option Expr} {t t' : TO} (h : PO X e t) (i : ∀ σ H Q, t' σ H Q → t σ H Q) : PO X e t' := ⟨fun pins s σ H Q I q => h.run pins s σ H Q I (i σ H Q q)⟩
theorem po_someU {e : Expr} {t : TE} (h : PE X e t) : PO X (some e) (cPart t) := imp_po (po_some (mono_e h)) fun σ H Q q => ⟨_, fun x H1 z => by
  revert z
  cases x <;> intro z <;> first | exact ⟨_, rfl, z⟩ | exact z.elim, q⟩
/-! ### built-ins -/
def rLenU (K : PySem.W.Frag) : List V → Hp → VK → Prop := fun xs H Q => match xs with
  | [.str z] => z.length ≤ sizeLine ∧ Q (.int z.length) H
  | [.ref p] => (∃ ys, (SqL K H p ys ∨ SqT K H p ys) ∧ Q (.int ys.length) H) ∨ ∃ kvs, H p = some (.dK kvs) ∧ Q (.int kvs.length) H
  | _ => False
theorem callU_len {K : PySem.W.Frag} (hK : X.K = K := by rfl) : CallR X (.builtin "len") (rLenU K) := hK ▸ imp_c (call_len_str.or (call_len_seq.or call_lenD)) fun xs H Q q => by
  unfold rLenU at q
  split at q
  · exact .inl ⟨_, rfl, q.1, q.2⟩
  · rcases q with ⟨ys, h, q⟩ | ⟨kvs, h, q⟩
    · exact .inr (.inl ⟨_, ys, rfl, h, q⟩)
    · exact .inr (.inr ⟨_, kvs, rfl, h, q⟩)
  · exact q.elim
/-- isinstance of a value whose type is known -/
def IsiV (K : PySem.W.Frag) (H : Hp) (x : V) (n : String) (b : Bool) : Prop := ∃ t, TyX K H x t ∧ PySem.W.kitOne K t (.type n) = some b
def rIsiU (K : PySem.W.Frag) : List V → Hp → VK → Prop := fun xs H Q => match xs with
  | [x, .ty n] => ∃ b, IsiV K H x n b ∧ Q (.bl b) H
  | [x, .ref c] => rIsi K [x, .ref c] H Q ∨ rIsiT K [x, .ref c] H Q
  | _ => False
theorem callU_isi {K : PySem.W.Frag} (hK : X.K = K := by rfl) : CallR X (.builtin "isinstance") (rIsiU K) := hK ▸ imp_c (call_isi.or call_isiT) fun xs H Q q => by
  unfold rIsiU at q
  split at q
  · obtain ⟨b, ⟨t, h1, h2⟩, q⟩ := q
    exact .inl ⟨_, _, t, _, b, rfl, .ty _, h1, h2, q⟩
  · exact q
  · exact q.elim
def rIntU : List V → Hp → VK → Prop := fun xs H Q => match xs with
  | [.int i] => Q (.int i) H
  | [.bl k] => Q (.int (if k then 1 else 0)) H
  | [.str a] => ∃ n, PySem.intText? a = some n ∧ a.length ≤ 640 ∧ Q (.int n) H
  | _ => False
theorem callU_int : CallR X (.type "int") rIntU := imp_c (call_int1.or call_int_str) fun xs H Q q => by
  unfold rIntU at q
  split at q
  · exact .inl (.inl ⟨_, rfl, q⟩)
  · exact .inl (.inr ⟨_, rfl, q⟩)
  · obtain ⟨n, h1, h2, q⟩ := q
    exact .inr ⟨_, n, rfl, h1, h2, q⟩
  · exact q.elim
def rStrU : List V → Hp → VK → Prop := fun xs H Q => match xs with
  | [.int i] => i.natAbs.log2 < 1920 ∧ Q (.str (toString i)) H
  | _ => False
theorem callU_str : CallR X (.type "str") rStrU := imp_c call_str_int fun xs H Q q => by
  unfold rStrU at q
  split at q
  · exact ⟨_, rfl, q.1, q.2⟩
  · exact q.elim
def rListU (K : PySem.W.Frag) : List V → Hp → VK → Prop := fun xs H Q => match xs with
  | [.ref p] => (∃ ys, (SqL K H p ys ∨ SqT K H p ys) ∧ ∀ l, H l = none → Q (.ref l) (upd H l (.lst ys))) ∨ ∃ kvs : List (Key × V), H p = some (.dK kvs) ∧ ∀ q, H q = none → Q (.ref q) (upd H q (.lst (kvs.map fun kv => kV kv.1)))
  | _ => False
theorem callU_list {K : PySem.W.Frag} (hc : X.calm = true) (hK : X.K = K := by rfl) : CallR X (.type "list") (rListU K) := hK ▸ imp_c (call_list_of.or (call_list_dK hc)) fun xs H Q q => by
  unfold rListU at q
  split at q
  · rcases q with ⟨ys, h, q⟩ | ⟨kvs, h, q⟩
    · exact .inl ⟨_, ys, rfl, h, q⟩
    · exact .inr ⟨_, kvs, rfl, h, q⟩
  · exact q.elim
def rTupU (K : PySem.W.Frag) : List V → Hp → VK → Prop := fun xs H Q => match xs with
  | [.ref p] => ∃ ys, (SqL K H p ys ∧ ∀ l, H l = none → Q (.ref l) (upd H l (.tup ys))) ∨ (SqT K H p ys ∧ Q (.ref p) H)
  | _ => False
theorem callU_tuple {K : PySem.W.Frag} (hK : X.K = K := by rfl) : CallR X (.type "tuple") (rTupU K) := hK ▸ imp_c call_tuple_of fun xs H Q q => by
  unfold rTupU at q
  split at q
  · obtain ⟨ys, q⟩ := q
    exact ⟨_, ys, rfl, q⟩
  · exact q.elim
def rMin2U : List V → Hp → VK → Prop := fun xs H Q => match xs with
  | [.int i, .int j] => Q (.int (if j < i then j else i)) H
  | _ => False
def rMax2U : List V → Hp → VK → Prop := fun xs H Q => match xs with
  | [.int i, .int j] => Q (.int (if j > i then j else i)) H
  | _ => False
theorem callU_min2 (hc : X.calm = true) : CallR X (.builtin "min") rMin2U := imp_c (call_min2 hc) fun xs H Q q => by
  unfold rMin2U at q
  split at q
  · exact ⟨_, _, rfl, q⟩
  · exact q.elim
theorem callU_max2 (hc : X.calm = true) : CallR X (.builtin "max") rMax2U := imp_c (call_max2 hc) fun xs H Q q => by
  unfold rMax2U at q
  split at q
  · exact ⟨_, _, rfl, q⟩
  · exact q.elim
def rAllU (K : PySem.W.Frag) (f : List Bool → Bool) : List V → Hp → VK → Prop := fun xs H Q => match xs with
  | [.ref a] => ∃ bs : List Bool, SqL K H a (bs.map V.bl) ∧ Q (.bl (f bs)) H
  | _ => False
theorem callU_all {K : PySem.W.Frag} (hc : X.calm = true) (hK : X.K = K := by rfl) : CallR X (.builtin "all") (rAllU K fun bs => bs.all id) := hK ▸ imp_c (cr_all hc) fun xs H Q q => by
  unfold rAllU at q
  split at q
  · obtain ⟨bs, h, q⟩ := q
    exact ⟨_, bs, rfl, h, q⟩
  · exact q.elim
theorem callU_any {K : PySem.W.Frag} (hc : X.calm = true) (hK : X.K = K := by rfl) : CallR X (.builtin "any") (rAllU K fun bs => bs.any id) := hK ▸ imp_c (cr_any hc) fun xs H Q q => by
  unfold rAllU at q
  split at q
  · obtain ⟨bs, h, q⟩ := q
    exact ⟨_, bs, rfl, h, q⟩
  · exact q.elim
/-- xs[i] = v -/
def rSetU : V → V → V → Hp → (Hp → Prop) → Prop := fun o i v H Q => match o, i with
  | .ref p, .int k => ∃ xs j, H p = some (.lst xs) ∧ ixN xs.length k = some j ∧ Q (upd H p (.lst (xs.set j v)))
  | _, _ => False
theorem setU : PSet X rSetU := by
  intro pins s σ H o i v ov iv u Q I ro ri rv h
  refine set_list pins s σ H o i v ov iv u Q I ro ri rv ?_
  unfold rSetU at h
  split at h
  · obtain ⟨xs, j, h1, h2, q⟩ := h
    exact ⟨_, xs, _, j, rfl, rfl, h1, h2, q⟩
  · exact h.elim
end
/-! ### the rest with the written part told -/
section
variable {X : Cx} {K : PySem.W.Frag}
theorem pe_ty {x : Str} {pos : Pos} (n : String) (hm : X.mg x = none) (hv : bootBuiltins x = some (.type n) := by decide +kernel) (hg : Gl X x := by rfl) (hn : x ≠ "__name__" := by decide) (hd : (x == ("__debug__" : Str)) = false := by decide) : PE X (.Name x pos) (tC (.ty n)) :=
  pe_bltn hg hm hv rfl hn hd
theorem pi_listK {tg l : Expr} {tl : TE} (hl : PE X l tl) (hK : X.K = K := by rfl) : PI X tg l (iList K tl) := hK ▸ pi_list hl
theorem pi_tupK {tg l : Expr} {tl : TE} (hl : PE X l tl) (hK : X.K = K := by rfl) : PI X tg l (iTup K tl) := hK ▸ pi_tup hl
theorem pg_tupK {es : List Expr} {k : Nat} {t : TGs} {n : Nat} {pos : Pos} (hc : X.calm = true) (h : PGs X es t)
    (hn : (assignEach es X.env).length = n := by rfl) (hst : (assignEach es X.env).findIdx? (·.1) = none := by rfl) (hK : X.K = K := by rfl) : PG X (.Tuple es k pos) (gTup K n t) := hK ▸ pg_tup hc h hn hst
theorem pe_fldK {e : Expr} {f : Str} {ta : TE} {pos : Pos} (he : PE X e ta) (hb : attributeBase e f X.env (eval e X.env) = eval e X.env) (hK : X.K = K := by rfl) : PE X (.Attribute e f pos) (tFld K ta f) := hK ▸ pe_fld he hb
end
/-! ### defs -/
structure Ok (P : Program) (w : World) (K : PySem.W.Frag) (mg : Str → Option Value) (base : Heap) (k : Nat) (x : Str) (ps : List Str) (sp : Sp) : Prop where
  ex : ∃ f fd, mg x = some (.ref f) ∧ PySem.W.keepIn K (.ref f) = true ∧ Binds K fd ps [] ∧ FnOk P w K mg base (L2.CX P w) k f fd ps sp
structure FnAt (K : PySem.W.Frag) (mg : Str → Option Value) (x qual : Str) (st : Stmt) (ps : List Str) : Prop where
  ex : ∃ f fd, mg x = some (.ref f) ∧ Fun K x qual st f fd ∧ Binds K fd ps []
theorem okF {P : Program} {w : World} {K : PySem.W.Frag} {mg : Str → Option Value} {base : Heap} {x qual : Str} {st : Stmt} {N ps : List Str} {k : Nat} {sp : Sp} (F : FnAt K mg x qual st ps) (S : FnScope N ps (defScope st)) (len : ∀ vs H Q E, sp vs H Q E → vs.length = ps.length)
    (hbody : ∀ (f : Addr) (cdv : Value) (A : Around) (outer : List Env) (s : Shared) (H : Hp) (vs : List V) (Q : VK) (E : XK), Room k (A.deeper (envOfC qual (defScope st) s.heap.objs.size f cdv)) → sp vs H Q E →
      ∃ t, PSs (cxOf (L2.CX P w) P w K mg base N qual (defScope st) f cdv A outer s H (bE H E)) (defBody st) t ∧ t { nx := fun _ H' => bQ H Q .non H', rt := bQ H Q } (start N vs) H) : Ok P w K mg base (k + 1) x ps sp := by
  obtain ⟨f, fd, h1, h2, h3⟩ := F.ex
  exact ⟨f, fd, h1, h2.kp, h3, okX h2 S len (hbody f)⟩
section
variable {X : Cx} {k j : Nat} {x : Str} {ps : List Str} {sp : Sp} {E : XK} {p pos : Pos} {e : Expr} {es : List Expr} {t : TA}
def cCall (sp : Sp) (E : XK) (t : TA) : TE := fun σ H Q => t σ H fun vs H1 => sp vs H1 Q E
theorem pe_f (O : Ok X.prog X.w X.K X.mg X.base k x ps sp) (hr : Room k X.A) (hx : Passes (L2.CX X.prog X.w) X E) (ha : PA X (e :: es) t) (hg : Gl X x := by rfl)
    (hdb : (x == ("__debug__" : Str)) = false := by decide) (he : starEach (e :: es) X.env = (false, eval e X.env) :: starEach es X.env := by rfl) (hpl : (backTo pos (starEach es X.env)).any (·.1) = false := by rfl) :
    PE X (.Call (.Name x p) (e :: es) [] pos) (cCall sp E t) := by
  obtain ⟨f, fd, h1, h2, h3, F⟩ := O.ex
  have ha' : PA X (e :: es) (fun σ H Q => ∃ Q0 : List V → Hp → Prop, (∀ v H', Q0 v H' → Q v H') ∧ t σ H Q0) := ⟨fun pos pins s σ H Q I q => by
    obtain ⟨Q0, w, z⟩ := q
    exact thn (ha.run pos pins s σ H Q0 I z) fun u s1 ⟨v, H1, I1, r, q1⟩ => ⟨v, H1, I1, r, w v H1 q1⟩⟩
  refine imp_e (pe_call F hr hg h1 h2 h3 .nil hx ha' hdb he hpl) fun σ H Q q => ⟨_, fun vs H1 z => ?_, q⟩
  show sp (vs ++ []) H1 Q E
  rw [List.append_nil]
  exact z
theorem pe_f0 (O : Ok X.prog X.w X.K X.mg X.base k x ps sp) (hr : Room k X.A) (hx : Passes (L2.CX X.prog X.w) X E) (hg : Gl X x := by rfl)
    (hdb : (x == ("__debug__" : Str)) = false := by decide) : PE X (.Call (.Name x p) [] [] pos) (cCall sp E tNil) := by
  obtain ⟨f, fd, h1, h2, h3, F⟩ := O.ex
  exact imp_e (pe_call0 F hr hg h1 h2 h3 .nil hx hdb) fun σ H Q q => q
end
end R
namespace R
open PySem PySem.Spec PyProof.Rows L2
/-! ### arguments by their number -/
def arg1 (R : V → Prop) : List V → Prop | [a] => R a | _ => False
def arg2 (R : V → V → Prop) : List V → Prop | [a, b] => R a b | _ => False
def arg3 (R : V → V → V → Prop) : List V → Prop | [a, b, c] => R a b c | _ => False
def arg4 (R : V → V → V → V → Prop) : List V → Prop | [a, b, c, d] => R a b c d | _ => False
def arg5 (R : V → V → V → V → V → Prop) : List V → Prop | [a, b, c, d, e] => R a b c d e | _ => False
theorem arg1.ex {R : V → Prop} : ∀ {vs : List V}, arg1 R vs → ∃ a, vs = [a] ∧ R a
  | [a], h => ⟨a, rfl, h⟩
  | [], h => h.elim
  | _ :: _ :: _, h => h.elim
theorem arg2.ex {R : V → V → Prop} : ∀ {vs : List V}, arg2 R vs → ∃ a b, vs = [a, b] ∧ R a b
  | [a, b], h => ⟨a, b, rfl, h⟩
  | [], h => h.elim
  | [_], h => h.elim
  | _ :: _ :: _ :: _, h => h.elim
theorem arg3.ex {R : V → V → V → Prop} : ∀ {vs : List V}, arg3 R vs → ∃ a b c, vs = [a, b, c] ∧ R a b c
  | [a, b, c], h => ⟨a, b, c, rfl, h⟩
  | [], h => h.elim
  | [_], h => h.elim
  | [_, _], h => h.elim
  | _ :: _ :: _ :: _ :: _, h => h.elim
theorem arg4.ex {R : V → V → V → V → Prop} : ∀ {vs : List V}, arg4 R vs → ∃ a b c d, vs = [a, b, c, d] ∧ R a b c d
  | [a, b, c, d], h => ⟨a, b, c, d, rfl, h⟩
  | [], h => h.elim
  | [_], h => h.elim
  | [_, _], h => h.elim
  | [_, _, _], h => h.elim
  | _ :: _ :: _ :: _ :: _ :: _, h => h.elim
theorem arg5.ex {R : V → V → V → V → V → Prop} : ∀ {vs : List V}, arg5 R vs → ∃ a b c d e, vs = [a, b, c, d, e] ∧ R a b c d e
  | [a, b, c, d, e], h => ⟨a, b, c, d, e, rfl, h⟩
  | [], h => h.elim
  | [_], h => h.elim
  | [_, _], h => h.elim
  | [_, _, _], h => h.elim
  | [_, _, _, _], h => h.elim
  | _ :: _ :: _ :: _ :: _ :: _ :: _, h => h.elim
def arg6 (R : V → V → V → V → V → V →  Prop) : List V → Prop | [a, b, c, d, e, f] => R a b c d e f | _ => False
theorem arg6.ex {R : V → V → V → V → V → V →  Prop} : ∀ {vs : List V}, arg6 R vs → ∃ a b c d e f, vs = [a, b, c, d, e, f] ∧ R a b c d e f
  | [a, b, c, d, e, f], h => ⟨a, b, c, d, e, f, rfl, h⟩
  | [], h => h.elim
  | [_], h => h.elim
  | [_, _], h => h.elim
  | [_, _, _], h => h.elim
  | [_, _, _, _], h => h.elim
  | [_, _, _, _, _], h => h.elim
  | _ :: _ :: _ :: _ :: _ :: _ :: _ :: _, h => h.elim
def arg7 (R : V → V → V → V → V → V → V →  Prop) : List V → Prop | [a, b, c, d, e, f, g] => R a b c d e f g | _ => False
theorem arg7.ex {R : V → V → V → V → V → V → V →  Prop} : ∀ {vs : List V}, arg7 R vs → ∃ a b c d e f g, vs = [a, b, c, d, e, f, g] ∧ R a b c d e f g
  | [a, b, c, d, e, f, g], h => ⟨a, b, c, d, e, f, g, rfl, h⟩
  | [], h => h.elim
  | [_], h => h.elim
  | [_, _], h => h.elim
  | [_, _, _], h => h.elim
  | [_, _, _, _], h => h.elim
  | [_, _, _, _, _], h => h.elim
  | [_, _, _, _, _, _], h => h.elim
  | _ :: _ :: _ :: _ :: _ :: _ :: _ :: _ :: _, h => h.elim
def arg8 (R : V → V → V → V → V → V → V → V →  Prop) : List V → Prop | [a, b, c, d, e, f, g, h] => R a b c d e f g h | _ => False
theorem arg8.ex {R : V → V → V → V → V → V → V → V →  Prop} : ∀ {vs : List V}, arg8 R vs → ∃ a b c d e f g h, vs = [a, b, c, d, e, f, g, h] ∧ R a b c d e f g h
  | [a, b, c, d, e, f, g, h], hyp => ⟨a, b, c, d, e, f, g, h, rfl, hyp⟩
  | [], h => h.elim
  | [_], h => h.elim
  | [_, _], h => h.elim
  | [_, _, _], h => h.elim
  | [_, _, _, _], h => h.elim
  | [_, _, _, _, _], h => h.elim
  | [_, _, _, _, _, _], h => h.elim
  | [_, _, _, _, _, _, _], h => h.elim
  | _ :: _ :: _ :: _ :: _ :: _ :: _ :: _ :: _ :: _, h => h.elim
def arg9 (R : V → V → V → V → V → V → V → V → V →  Prop) : List V → Prop | [a, b, c, d, e, f, g, h, i] => R a b c d e f g h i | _ => False
theorem arg9.ex {R : V → V → V → V → V → V → V → V → V →  Prop} : ∀ {vs : List V}, arg9 R vs → ∃ a b c d e f g h i, vs = [a, b, c, d, e, f, g, h, i] ∧ R a b c d e f g h i
  | [a, b, c, d, e, f, g, h, i], hyp => ⟨a, b, c, d, e, f, g, h, i, rfl, hyp⟩
  | [], h => h.elim
  | [_], h => h.elim
  | [_, _], h => h.elim
  | [_, _, _], h => h.elim
  | [_, _, _, _], h => h.elim
  | [_, _, _, _, _], h => h.elim
  | [_, _, _, _, _, _], h => h.elim
  | [_, _, _, _, _, _, _], h => h.elim
  | [_, _, _, _, _, _, _, _], h => h.elim
  | _ :: _ :: _ :: _ :: _ :: _ :: _ :: _ :: _ :: _ :: _, h => h.elim
/-! ### heaps -/
theorem same_new {H : Hp} {p : Addr} {o : HO} (h : H p = none) : Same H (upd H p o) := fun b u e => by
  rw [upd_ne (ne_of_none e h)]
  exact e
theorem Wf.set {H : Hp} {p : Addr} {o : HO} (w : Wf H) (f : Flat o) (h : ∀ x, H p ≠ some (.own x)) : Wf (upd H p o) := fun a u e => by
  by_cases ha : a = p
  · subst ha
    rw [upd_same] at e
    cases e
    exact .inl f
  · rw [upd_ne ha] at e
    rcases w a u e with q | ⟨C, dx, fs, rfl, hd⟩
    · exact .inl q
    · refine .inr ⟨C, dx, fs, rfl, ?_⟩
      rw [upd_ne (fun z => h a (by rw [← z]; exact hd))]
      exact hd
theorem Wf.new {H : Hp} {p : Addr} {o : HO} (w : Wf H) (f : Flat o) (h : H p = none) : Wf (upd H p o) := w.set f fun x z => by rw [h] at z; cases z
theorem Wf.at {H : Hp} {p : Addr} {o u : HO} (w : Wf H) (f : Flat o) (h : H p = some u) (hu : ∀ x, u ≠ .own x) : Wf (upd H p o) := w.set f fun x z => by
  rw [h] at z
  exact hu x (Option.some.inj z)
theorem bQ.same {H H' : Hp} {Q : VK} {v : V} (w : Wf H) (s : Same H H') (q : Q v H) : bQ H Q v H' := ⟨H, ⟨s, fun a o e => by rw [e, s a o e], w⟩, q⟩
/-! ### a list of two numbers from which digits are drawn -/
def stL (p q : Int) : HO := .lst [.int p, .int q]
/-- it stands at a, its first number not below nought -/
def St2 (H : Hp) (a : Addr) : Prop := ∃ p q, H a = some (stL p q) ∧ 0 ≤ p
/-- all but it is as it was -/
structure Dr (a : Addr) (H H' : Hp) : Prop where
  kp : ∀ b o, b ≠ a → H b = some o → H' b = some o
  st : St2 H' a
  wf : Wf H'
theorem Dr.refl {a : Addr} {H : Hp} (s : St2 H a) (w : Wf H) : Dr a H H := ⟨fun _ _ _ h => h, s, w⟩
theorem Dr.trans {a : Addr} {H H1 H2 : Hp} (x : Dr a H H1) (y : Dr a H1 H2) : Dr a H H2 := ⟨fun b o n e => y.kp b o n (x.kp b o n e), y.st, y.wf⟩
theorem Dr.drawn {a : Addr} {H H1 : Hp} {p q : Int} (x : Dr a H H1) (h : 0 ≤ p) : Dr a H (upd H1 a (stL p q)) := by
  obtain ⟨p0, q0, e, _⟩ := x.st
  refine ⟨fun b o n e => ?_, ⟨p, q, upd_same, h⟩, x.wf.at trivial e fun x z => by cases z⟩
  rw [upd_ne n]
  exact x.kp b o n e
theorem Dr.new {a p : Addr} {o : HO} {H H1 : Hp} (x : Dr a H H1) (h : H1 p = none) (f : Flat o) : Dr a H (upd H1 p o) := by
  obtain ⟨p0, q0, e, h0⟩ := x.st
  refine ⟨fun b u n e => ?_, ⟨p0, q0, ?_, h0⟩, x.wf.new f h⟩
  · have q := x.kp b u n e
    rw [upd_ne (ne_of_none q h)]
    exact q
  · rw [upd_ne (ne_of_none e h)]
    exact e
theorem Dr.done {a : Addr} {H H' : Hp} {Q : VK} {v : V} (x : Dr a H H') (w : Wf H) (s : St2 H a) (q : ∀ p q, 0 ≤ p → Q v (upd H a (stL p q))) : bQ H Q v H' := by
  obtain ⟨p, q0, e, h⟩ := x.st
  obtain ⟨p1, q1, e1, _⟩ := s
  refine ⟨upd H a (stL p q0), ⟨fun b o z => ?_, fun b o z => ?_, w.at trivial e1 fun x z => by cases z⟩, q p q0 h⟩
  · by_cases hb : b = a
    · subst hb
      rw [upd_same] at z
      rw [e, z]
    · rw [upd_ne hb] at z
      exact x.kp b o hb z
  · by_cases hb : b = a
    · subst hb
      rw [upd_same, e]
    · rw [upd_ne hb, z, x.kp b o hb z]
theorem Dr.at {a b : Addr} {o : HO} {H H' : Hp} (x : Dr a H H') (h : H b = some o) (n : ∀ p q, o ≠ stL p q) (s : St2 H a) : H' b = some o := by
  obtain ⟨p, q, e, _⟩ := s
  exact x.kp b o (fun z => by subst z; rw [h] at e; exact n p q (Option.some.inj e)) h
/-- a place in a list, a text -/
theorem at_lt {α : Type} {xs : List α} {i : Int} (h0 : 0 ≤ i) (h1 : i < xs.length) : ∃ v, atI xs i = some v ∧ v ∈ xs := by
  obtain ⟨j, rfl⟩ : ∃ j : Nat, i = j := ⟨i.toNat, by omega⟩
  have hj : j < xs.length := by omega
  exact ⟨xs[j], atI_nat (List.getElem?_eq_getElem hj), List.getElem_mem hj⟩
theorem line_of {n : Nat} (h : n ≤ 16777216) : n ≤ sizeLine := by rw [sizeLine_eq]; exact h
theorem line_lt {n : Nat} (h : n < 16777216) : n < sizeLine := by rw [sizeLine_eq]; exact h
/-! ### types of values -/
def Known (K : PySem.W.Frag) (H : Hp) (v : V) : Prop := match v with
  | .non => True
  | .bl _ => True
  | .int _ => True
  | .str _ => True
  | .ref p => (∃ xs, H p = some (.lst xs)) ∨ (∃ xs, H p = some (.tup xs)) ∨ ∃ kvs, H p = some (.dK kvs)
  | _ => False
def isStr : V → Bool | .str _ => true | _ => false
def isInt : V → Bool | .int _ => true | .bl _ => true | _ => false
def isBl : V → Bool | .bl _ => true | _ => false
section
variable {K : PySem.W.Frag} {H : Hp}
theorem isi_ty {x : V} {n m : String} {b : Bool} (h : TyX K H x (.type n)) (e : kitB n m = some b) : IsiV K H x m b := ⟨_, h, kit_ty e⟩
theorem isi_str : ∀ {v : V}, Known K H v → IsiV K H v "str" (isStr v)
  | .non, _ => isi_ty (b := false) (.base .non) (by decide +kernel)
  | .bl _, _ => isi_ty (b := false) (.base (.bl _)) (by decide +kernel)
  | .int _, _ => isi_ty (b := false) (.base (.int _)) (by decide +kernel)
  | .str _, _ => isi_ty (b := true) (.base (.str _)) (by decide +kernel)
  | .ref _, .inl ⟨_, h⟩ => isi_ty (b := false) (.base (.lst h)) (by decide +kernel)
  | .ref _, .inr (.inl ⟨_, h⟩) => isi_ty (b := false) (.base (.tup h)) (by decide +kernel)
  | .ref _, .inr (.inr ⟨_, h⟩) => isi_ty (b := false) (.base (.dK h)) (by decide +kernel)
theorem isi_int : ∀ {v : V}, Known K H v → IsiV K H v "int" (isInt v)
  | .non, _ => isi_ty (b := false) (.base .non) (by decide +kernel)
  | .bl _, _ => isi_ty (b := true) (.base (.bl _)) (by decide +kernel)
  | .int _, _ => isi_ty (b := true) (.base (.int _)) (by decide +kernel)
  | .str _, _ => isi_ty (b := false) (.base (.str _)) (by decide +kernel)
  | .ref _, .inl ⟨_, h⟩ => isi_ty (b := false) (.base (.lst h)) (by decide +kernel)
  | .ref _, .inr (.inl ⟨_, h⟩) => isi_ty (b := false) (.base (.tup h)) (by decide +kernel)
  | .ref _, .inr (.inr ⟨_, h⟩) => isi_ty (b := false) (.base (.dK h)) (by decide +kernel)
theorem isi_bool : ∀ {v : V}, Known K H v → IsiV K H v "bool" (isBl v)
  | .non, _ => isi_ty (b := false) (.base .non) (by decide +kernel)
  | .bl _, _ => isi_ty (b := true) (.base (.bl _)) (by decide +kernel)
  | .int _, _ => isi_ty (b := false) (.base (.int _)) (by decide +kernel)
  | .str _, _ => isi_ty (b := false) (.base (.str _)) (by decide +kernel)
  | .ref _, .inl ⟨_, h⟩ => isi_ty (b := false) (.base (.lst h)) (by decide +kernel)
  | .ref _, .inr (.inl ⟨_, h⟩) => isi_ty (b := false) (.base (.tup h)) (by decide +kernel)
  | .ref _, .inr (.inr ⟨_, h⟩) => isi_ty (b := false) (.base (.dK h)) (by decide +kernel)
end
end R
namespace R
open PySem PySem.Spec PyProof.Rows L2
theorem iteP {p : Prop} [Decidable p] {A B : Prop} (h : p) (a : A) : if decide p = true then A else B := by
  rw [if_pos (decide_eq_true h)]
  exact a
theorem iteN {p : Prop} [Decidable p] {A B : Prop} (h : ¬ p) (b : B) : if decide p = true then A else B := by
  rw [if_neg (by rw [decide_eq_false h]; exact Bool.false_ne_true)]
  exact b
theorem iteC {p : Prop} [Decidable p] {A B : Prop} (a : p → A) (b : ¬ p → B) : if decide p = true then A else B := by
  by_cases h : p
  · exact iteP h (a h)
  · exact iteN h (b h)
/-- a comprehension without tests whose element changes nothing -/
theorem lc_map {J : It} {n : Nat} {G : Hp → Prop} {Y : Nat → Hp → V → Hp → Prop} (w : Walk J n G Y) (It' : Nat → V → Prop) (hy : ∀ i H x H', Y i H x H' → H' = H ∧ It' i x) (f : Nat → V) {g : TG} {te : TE} {vs : List Nat} {σ : L2.St} {H1 : Hp} {D : Addr} {Qd : Hp → Prop}
    (hn : n < sizeLine) (hG : ∀ o, G (upd H1 D o))
    (hs : ∀ (i : Nat) (x : V) (acc : List V) (C : V → Hp → Prop), i < n → It' i x → C (f i) (upd H1 D (.lst acc)) → g x (wipe σ vs) (upd H1 D (.lst acc)) fun σ2 H2 => wipe σ2 vs = wipe σ vs ∧ te σ2 H2 C)
    (hd : Qd (upd H1 D (.lst ((List.range n).map f)))) :
    ∃ W : Nat → Nat → Hp → Prop, (∃ m, W 0 m (upd H1 D (.lst []))) ∧ ∀ i m H, W i m H →
      (J.stop i H ∧ Qd H) ∨ (J.go i H ∧ ∃ Nx : Hp → Prop, (∀ H', Nx H' → ∃ m', m' < m ∧ W (i + 1) m' H') ∧ ∀ x H', J.yld i H x H' → g x (wipe σ vs) H' fun σ2 H2 => wipe σ2 vs = wipe σ vs ∧ tYes σ2 H2 fun b H3 =>
        if b = true then te σ2 H3 fun y H4 => ∃ acc, H4 D = some (.lst acc) ∧ acc.length < sizeLine ∧ Nx (upd H4 D (.lst (acc ++ [y]))) else Nx H3) := by
  refine ⟨fun i m H => m = n - i ∧ i ≤ n ∧ H = upd H1 D (.lst ((List.range i).map f)), ⟨n, by simp, Nat.zero_le _, rfl⟩, ?_⟩
  rintro i m H ⟨rfl, hi, rfl⟩
  by_cases hlt : i < n
  · refine .inr ⟨w.goes i _ hlt (hG _), fun H' => H' = upd H1 D (.lst ((List.range (i + 1)).map f)), fun H' e => ⟨n - (i + 1), by omega, rfl, hlt, e⟩, fun x H' y => ?_⟩
    obtain ⟨rfl, hx⟩ := hy _ _ _ _ (w.yields i _ x H' hlt (hG _) y)
    refine hs i x _ (fun y H4 => ∃ acc, H4 D = some (.lst acc) ∧ acc.length < sizeLine ∧ upd H4 D (.lst (acc ++ [y])) = upd H1 D (.lst ((List.range (i + 1)).map f))) hlt hx ⟨_, upd_same, ?_, ?_⟩
    · rw [List.length_map, List.length_range]
      exact Nat.lt_trans hlt hn
    · rw [upd_upd, List.range_succ, List.map_append]
      rfl
  · have e : i = n := by omega
    subst e
    exact .inl ⟨w.stops _ (hG _), hd⟩
theorem range_getD {α β : Type} (l : List α) (d : α) (f : α → β) : (List.range l.length).map (fun i => f (l.getD i d)) = l.map f := by
  apply List.ext_getElem
  · simp
  · intro i h1 h2
    simp at h1 h2 ⊢
    simp [List.getElem?_eq_getElem h1]
end R
namespace R
theorem iteB {c : Bool} {A B : Prop} (a : c = true → A) (b : c = false → B) : if c = true then A else B := by
  cases c with
  | true => rw [if_pos rfl]; exact a rfl
  | false => rw [if_neg Bool.false_ne_true]; exact b rfl
theorem nd_t {p : Prop} [Decidable p] (h : (!decide p) = true) : ¬ p := by simpa using h
theorem nd_f {p : Prop} [Decidable p] (h : (!decide p) = false) : p := by simpa using h
end R
namespace R
open PySem PySem.Spec PyProof.Rows L2
/-- a comprehension with tests whose parts change nothing -/
theorem lc_filt {J : It} {n : Nat} {G : Hp → Prop} {Y : Nat → Hp → V → Hp → Prop} (w : Walk J n G Y) (It' : Nat → V → Prop) (hy : ∀ i H x H', Y i H x H' → H' = H ∧ It' i x) (f : Nat → V) (p : Nat → Bool) {g : TG} {tt : TT} {te : TE} {vs : List Nat} {σ : L2.St} {H1 : Hp} {D : Addr} {Qd : Hp → Prop}
    (hn : n < sizeLine) (hG : ∀ o, G (upd H1 D o))
    (hs : ∀ (i : Nat) (x : V) (acc : List V) (C : V → Hp → Prop) (Cn : Hp → Prop), i < n → It' i x → (p i = true → C (f i) (upd H1 D (.lst acc))) → (p i = false → Cn (upd H1 D (.lst acc))) →
      g x (wipe σ vs) (upd H1 D (.lst acc)) fun σ2 H2 => wipe σ2 vs = wipe σ vs ∧ tt σ2 H2 fun b H3 => if b = true then te σ2 H3 C else Cn H3)
    (hd : Qd (upd H1 D (.lst (((List.range n).filter p).map f)))) :
    ∃ W : Nat → Nat → Hp → Prop, (∃ m, W 0 m (upd H1 D (.lst []))) ∧ ∀ i m H, W i m H →
      (J.stop i H ∧ Qd H) ∨ (J.go i H ∧ ∃ Nx : Hp → Prop, (∀ H', Nx H' → ∃ m', m' < m ∧ W (i + 1) m' H') ∧ ∀ x H', J.yld i H x H' → g x (wipe σ vs) H' fun σ2 H2 => wipe σ2 vs = wipe σ vs ∧ tt σ2 H2 fun b H3 =>
        if b = true then te σ2 H3 fun y H4 => ∃ acc, H4 D = some (.lst acc) ∧ acc.length < sizeLine ∧ Nx (upd H4 D (.lst (acc ++ [y]))) else Nx H3) := by
  refine ⟨fun i m H => m = n - i ∧ i ≤ n ∧ H = upd H1 D (.lst (((List.range i).filter p).map f)), ⟨n, by simp, Nat.zero_le _, rfl⟩, ?_⟩
  rintro i m H ⟨rfl, hi, rfl⟩
  by_cases hlt : i < n
  · refine .inr ⟨w.goes i _ hlt (hG _), fun H' => H' = upd H1 D (.lst (((List.range (i + 1)).filter p).map f)), fun H' e => ⟨n - (i + 1), by omega, rfl, hlt, e⟩, fun x H' y => ?_⟩
    obtain ⟨rfl, hx⟩ := hy _ _ _ _ (w.yields i _ x H' hlt (hG _) y)
    refine hs i x _ (fun y H4 => ∃ acc, H4 D = some (.lst acc) ∧ acc.length < sizeLine ∧ upd H4 D (.lst (acc ++ [y])) = upd H1 D (.lst (((List.range (i + 1)).filter p).map f))) _ hlt hx (fun hp => ⟨_, upd_same, ?_, ?_⟩) (fun hp => ?_)
    · rw [List.length_map]
      refine Nat.lt_of_le_of_lt (List.length_filter_le _ _) ?_
      rw [List.length_range]
      exact Nat.lt_trans hlt hn
    · rw [upd_upd, List.range_succ, List.filter_append, List.map_append, List.filter_cons_of_pos hp]
      rfl
    · rw [List.range_succ, List.filter_append, List.filter_cons_of_neg (by rw [hp]; exact Bool.false_ne_true)]
      simp
  · have e : i = n := by omega
    subst e
    exact .inl ⟨w.stops _ (hG _), hd⟩
theorem filt_getD {α β : Type} (l : List α) (d : α) (q : α → Bool) (f : α → β) : ((List.range l.length).filter fun i => q (l.getD i d)).map (fun i => f (l.getD i d)) = (l.filter q).map f := by
  have h : (List.range l.length).map (fun i => l.getD i d) = l := by
    have := range_getD l d id
    simpa using this
  have h2 : ((List.range l.length).filter fun i => q (l.getD i d)).map (fun i => l.getD i d) = l.filter q := by
    conv => rhs; rw [← h]
    rw [List.filter_map]
    rfl
  rw [← h2, List.map_map]
  rfl
theorem joinL_nil : ∀ ps : List (List Nat), TL.joinL [] ps = ps.flatten
  | [] => rfl
  | [p] => by simp [TL.joinL]
  | p :: q :: r => by
    show p ++ ([] ++ TL.joinL [] (q :: r)) = _
    rw [joinL_nil (q :: r)]
    rfl
theorem join_ones (cs : List Nat) : Txt.join (⟨#[]⟩ : Str) (cs.map fun c => (⟨#[c]⟩ : Str)) = ⟨cs.toArray⟩ := by
  have e : ∀ cs : List Nat, (cs.map fun c => [c]).flatten = cs := fun cs => by
    induction cs with
    | nil => rfl
    | cons c r ih =>
      rw [List.map_cons, List.flatten_cons, ih]
      rfl
  have h := SX.join_S [] (cs.map fun c => [c])
  rw [joinL_nil, List.map_map, e] at h
  exact h
theorem dp_strs {K : PySem.W.Frag} {H : Hp} : ∀ zs : List Str, DpAll K H (zs.map V.str) (zs.map PyData.str)
  | [] => .nil
  | z :: zs => .cons (.str z) (dp_strs zs)
theorem dp_ints {K : PySem.W.Frag} {H : Hp} : ∀ zs : List Int, DpAll K H (zs.map V.int) (zs.map PyData.int)
  | [] => .nil
  | z :: zs => .cons (.int z) (dp_ints zs)
end R
namespace R
open PySem PySem.Spec PyProof.Rows L2
theorem Dr.put {a D : Addr} {o u : HO} {H H1 : Hp} (x : Dr a H H1) (hD : H D = none) (e : H1 D = some u) (nu : ∀ x, u ≠ .own x) (f : Flat o) (n : D ≠ a) : Dr a H (upd H1 D o) := by
  obtain ⟨p0, q0, e0, h0⟩ := x.st
  refine ⟨fun b z nb eb => ?_, ⟨p0, q0, ?_, h0⟩, x.wf.at f e nu⟩
  · rw [upd_ne (ne_of_none eb hD)]
    exact x.kp b z nb eb
  · rw [upd_ne n.symm]
    exact e0
end R
namespace R
open PySem PySem.Spec PyProof.Rows L2
abbrev sOk (z : Str) : Prop := PyData.strOk z = true
theorem sOk_iff {z : Str} : sOk z ↔ ∀ c ∈ z.cps.toList, c < 0x110000 := by
  unfold sOk PyData.strOk
  rw [← Array.all_toList, List.all_eq_true]
  simp
theorem sOk_app {x y : Str} (h : sOk x) (g : sOk y) : sOk (x ++ y) := by
  rw [sOk_iff] at h g ⊢
  intro c hc
  have e := TL.tl_append x y
  have hc' : c ∈ TL.tl (x ++ y) := hc
  rw [e, List.mem_append] at hc'
  rcases hc' with q | q
  · exact h c q
  · exact g c q
theorem sOk_cut {z : Str} {lo hi : Option Int} (h : sOk z) : sOk (cutS z lo hi) := by
  rw [sOk_iff] at h ⊢
  intro c hc
  refine h c ?_
  have hc' : c ∈ (z.cps.toList.drop (HT.sIx z.length 0 lo)).take (HT.sIx z.length z.length hi - HT.sIx z.length 0 lo) := hc
  exact List.mem_of_mem_drop (List.mem_of_mem_take hc')
theorem sOk_list {cs : List Nat} (h : ∀ c ∈ cs, c < 0x110000) : sOk ⟨cs.toArray⟩ := sOk_iff.mpr (by simpa using h)
theorem sOk_one {c : Nat} (h : c < 0x110000) : sOk ⟨#[c]⟩ := sOk_list (cs := [c]) (by simpa using h)
theorem shape_strs {zs : List Str} (h : ∀ z ∈ zs, sOk z) : SeqAt.shaped (.list (zs.map .str)) = true := by
  have h1 : PyData.canLayAll0 (zs.map .str) = true := by
    induction zs with
    | nil => rfl
    | cons z r ih =>
      show (PyData.canLay0 (.str z) && PyData.canLayAll0 (r.map .str)) = true
      rw [ih fun y hy => h y (List.mem_cons_of_mem _ hy), Bool.and_true]
      exact h z List.mem_cons_self
  have h2 : PyData.depthAll (zs.map .str) = 0 := by
    clear h h1
    induction zs with
    | nil => rfl
    | cons z r ih =>
      show max 0 (PyData.depthAll (r.map .str)) = 0
      rw [ih]
      rfl
  unfold SeqAt.shaped
  show (PyData.canLayAll0 (zs.map .str) && decide (PyData.depthAll (zs.map .str) + 1 ≤ 64)) = true
  rw [h1, h2]
  rfl
/-- what behind a statement is wanted, told first -/
def sCut (t : TS) : TS := fun D σ H => ∃ P : L2.St → Hp → Prop, t { D with nx := P } σ H ∧ ∀ σ' H', P σ' H' → D.nx σ' H'
theorem ps_cut {X : Cx} {b : Stmt} {t : TS} (h : PS X b t) : PS X b (sCut t) := ⟨fun pins s σ H D I q => by
  obtain ⟨P, q1, q2⟩ := q
  refine thn (h.run pins s σ H _ I q1) fun f s1 z => ?_
  cases f with
  | next =>
    obtain ⟨σ', H', I', q⟩ := z
    exact ⟨σ', H', I', q2 _ _ q⟩
  | brk => exact z
  | cont => exact z
  | ret u => exact z⟩
/-- the same of a value -/
def eCut (t : TE) : TE := fun σ H Q => ∃ P : VK, t σ H P ∧ ∀ v H', P v H' → Q v H'
theorem pe_cut {X : Cx} {e : Expr} {t : TE} (h : PE X e t) : PE X e (eCut t) := ⟨fun pins s σ H Q I q => by
  obtain ⟨P, q1, q2⟩ := q
  exact thn (h.run pins s σ H _ I q1) fun u s1 ⟨v, H', I', r, q⟩ => ⟨v, H', I', r, q2 _ _ q⟩⟩
theorem wf_only {H : Hp} (h : Only H) : Wf H := fun a o e => by
  rcases h a with q | ⟨ob, xs, q⟩
  · rw [q] at e
    cases e
  · rw [q] at e
    cases e
    exact .inl trivial
theorem lt_one {c d : Nat} : (([c] : List Nat) < [d]) ↔ c < d := by
  rw [List.cons_lt_cons_iff]
  constructor
  · rintro (h | ⟨_, h⟩)
    · exact h
    · exact absurd h (List.lt_irrefl _)
  · exact .inl
end R
namespace R
theorem st_ne {H : L2.Hp} {a l : PySem.Addr} (s : St2 H a) (n : H l = none) : l ≠ a := fun e => by
  obtain ⟨_, _, e1, _⟩ := s
  rw [← e, n] at e1
  cases e1
theorem bE.same {H H' : L2.Hp} {E : L2.XK} {c : PySem.Value} {d : Option PySem.Addr} (w : Wf H) (s : L2.Same H H') (q : E c d H) : bE H E c d H' := ⟨H, ⟨s, fun a o e => by rw [e, s a o e], w⟩, q⟩
theorem bE.mk {H H' : L2.Hp} {E : L2.XK} {c : PySem.Value} {d : Option PySem.Addr} (w : Wf H') (q : E c d H') : bE H E c d H' := ⟨H', Back.refl w, q⟩
end R
namespace R
open PySem PySem.Spec PyProof.Rows L2
/-! ### what is known of a value's type; data -/
/-- its type is one of the plain ones -/
def Kn (K : PySem.W.Frag) (H : Hp) (v : V) : Prop := match v with
  | .non => True
  | .bl _ => True
  | .int _ => True
  | .str _ => True
  | .ref p => TyX K H (.ref p) (.type "list") ∨ TyX K H (.ref p) (.type "tuple") ∨ TyX K H (.ref p) (.type "dict")
  | _ => False
section
variable {K : PySem.W.Frag} {H H' : Hp}
theorem ty_l {p : Addr} {xs : List V} (h : SqL K H p xs) : TyX K H (.ref p) (.type "list") := by
  rcases h with (h | ⟨o, h⟩) | ⟨o, _, _, h, c, _⟩
  · exact .base (.lst h)
  · exact .base (.frz h)
  · exact .kList h c
theorem ty_t {p : Addr} {xs : List V} (h : SqT K H p xs) : TyX K H (.ref p) (.type "tuple") := by
  rcases h with (h | ⟨o, h⟩) | ⟨o, _, _, h, c, _⟩
  · exact .base (.tup h)
  · exact .fTuple h
  · exact .kTuple h c
theorem Known.kn : ∀ {v : V}, Known K H v → Kn K H v
  | .non, h => h
  | .bl _, h => h
  | .int _, h => h
  | .str _, h => h
  | .ref _, .inl ⟨_, h⟩ => .inl (.base (.lst h))
  | .ref _, .inr (.inl ⟨_, h⟩) => .inr (.inl (.base (.tup h)))
  | .ref _, .inr (.inr ⟨_, h⟩) => .inr (.inr (.base (.dK h)))
  | .byt _, h => h.elim
  | .flt _, h => h.elim
  | .ty _, h => h.elim
theorem kn_dp {v : V} {d : PyData} (h : Dp K H v d) : Kn K H v := by
  cases h with
  | non => trivial
  | bl _ => trivial
  | int _ => trivial
  | str _ => trivial
  | lst h _ => exact .inl (ty_l h)
  | tup h _ => exact .inr (.inl (ty_t h))
theorem isk_str : ∀ {v : V}, Kn K H v → IsiV K H v "str" (isStr v)
  | .non, _ => isi_ty (b := false) (.base .non) (by decide +kernel)
  | .bl _, _ => isi_ty (b := false) (.base (.bl _)) (by decide +kernel)
  | .int _, _ => isi_ty (b := false) (.base (.int _)) (by decide +kernel)
  | .str _, _ => isi_ty (b := true) (.base (.str _)) (by decide +kernel)
  | .ref _, .inl h => isi_ty (b := false) h (by decide +kernel)
  | .ref _, .inr (.inl h) => isi_ty (b := false) h (by decide +kernel)
  | .ref _, .inr (.inr h) => isi_ty (b := false) h (by decide +kernel)
theorem isk_int : ∀ {v : V}, Kn K H v → IsiV K H v "int" (isInt v)
  | .non, _ => isi_ty (b := false) (.base .non) (by decide +kernel)
  | .bl _, _ => isi_ty (b := true) (.base (.bl _)) (by decide +kernel)
  | .int _, _ => isi_ty (b := true) (.base (.int _)) (by decide +kernel)
  | .str _, _ => isi_ty (b := false) (.base (.str _)) (by decide +kernel)
  | .ref _, .inl h => isi_ty (b := false) h (by decide +kernel)
  | .ref _, .inr (.inl h) => isi_ty (b := false) h (by decide +kernel)
  | .ref _, .inr (.inr h) => isi_ty (b := false) h (by decide +kernel)
theorem isk_bool : ∀ {v : V}, Kn K H v → IsiV K H v "bool" (isBl v)
  | .non, _ => isi_ty (b := false) (.base .non) (by decide +kernel)
  | .bl _, _ => isi_ty (b := true) (.base (.bl _)) (by decide +kernel)
  | .int _, _ => isi_ty (b := false) (.base (.int _)) (by decide +kernel)
  | .str _, _ => isi_ty (b := false) (.base (.str _)) (by decide +kernel)
  | .ref _, .inl h => isi_ty (b := false) h (by decide +kernel)
  | .ref _, .inr (.inl h) => isi_ty (b := false) h (by decide +kernel)
  | .ref _, .inr (.inr h) => isi_ty (b := false) h (by decide +kernel)
def isTupD : PyData → Bool | .tuple _ => true | _ => false
theorem isk_tup {v : V} {d : PyData} (h : Dp K H v d) : IsiV K H v "tuple" (isTupD d) := by
  cases h with
  | non => exact isi_ty (b := false) (.base .non) (by decide +kernel)
  | bl _ => exact isi_ty (b := false) (.base (.bl _)) (by decide +kernel)
  | int _ => exact isi_ty (b := false) (.base (.int _)) (by decide +kernel)
  | str _ => exact isi_ty (b := false) (.base (.str _)) (by decide +kernel)
  | lst h _ => exact isi_ty (b := false) (ty_l h) (by decide +kernel)
  | tup h _ => exact isi_ty (b := true) (ty_t h) (by decide +kernel)
def isLstD : PyData → Bool | .list _ => true | _ => false
theorem isk_lst {v : V} {d : PyData} (h : Dp K H v d) : IsiV K H v "list" (isLstD d) := by
  cases h with
  | non => exact isi_ty (b := false) (.base .non) (by decide +kernel)
  | bl _ => exact isi_ty (b := false) (.base (.bl _)) (by decide +kernel)
  | int _ => exact isi_ty (b := false) (.base (.int _)) (by decide +kernel)
  | str _ => exact isi_ty (b := false) (.base (.str _)) (by decide +kernel)
  | lst h _ => exact isi_ty (b := true) (ty_l h) (by decide +kernel)
  | tup h _ => exact isi_ty (b := false) (ty_t h) (by decide +kernel)
/-- what data lean on: every address's object that is read -/
theorem sqt_keep {p : Addr} {xs : List V} (k : ∀ o, H p = some o → H' p = some o) (h : SqT K H p xs) : SqT K H' p xs := by
  rcases h with (h | ⟨o, h⟩) | h
  · exact .inl (.inl (k _ h))
  · exact .inl (.inr ⟨o, k _ h⟩)
  · exact .inr h
theorem sql_keep {p : Addr} {xs : List V} (k : ∀ o, H p = some o → H' p = some o) (h : SqL K H p xs) : SqL K H' p xs := by
  rcases h with (h | ⟨o, h⟩) | h
  · exact .inl (.inl (k _ h))
  · exact .inl (.inr ⟨o, k _ h⟩)
  · exact .inr h
mutual
theorem dp_keep (k : ∀ p o, H p = some o → H' p = some o) : ∀ {v : V} {d : PyData}, Dp K H v d → Dp K H' v d
  | _, _, .non => .non
  | _, _, .bl b => .bl b
  | _, _, .int i => .int i
  | _, _, .str z => .str z
  | _, _, .lst h a => .lst (sql_keep (k _) h) (dpa_keep k a)
  | _, _, .tup h a => .tup (sqt_keep (k _) h) (dpa_keep k a)
theorem dpa_keep (k : ∀ p o, H p = some o → H' p = some o) : ∀ {vs : List V} {ds : List PyData}, DpAll K H vs ds → DpAll K H' vs ds
  | _, _, .nil => .nil
  | _, _, .cons h a => .cons (dp_keep k h) (dpa_keep k a)
end
theorem dpa_len : ∀ {vs : List V} {ds : List PyData}, DpAll K H vs ds → vs.length = ds.length
  | _, _, .nil => rfl
  | _, _, .cons _ a => congrArg (· + 1) (dpa_len a)
theorem dpa_at : ∀ {vs : List V} {ds : List PyData}, DpAll K H vs ds → ∀ {i : Nat} {v : V}, vs[i]? = some v → ∃ d, ds[i]? = some d ∧ Dp K H v d
  | _, _, .nil, i, v, e => by simp at e
  | _, _, .cons h _, 0, v, e => by cases Option.some.inj e; exact ⟨_, rfl, h⟩
  | _, _, .cons _ a, i + 1, v, e => dpa_at a (i := i) (by simpa using e)
/-- data that do not lean on what stands at a -/
def hid (a : Addr) (H : Hp) : Hp := fun b => if b = a then none else H b
abbrev Da (K : PySem.W.Frag) (a : Addr) (H : Hp) (v : V) (d : PyData) : Prop := Dp K (hid a H) v d
theorem Da.dp {a : Addr} {v : V} {d : PyData} (h : Da K a H v d) : Dp K H v d := dp_keep (fun p o e => by
  unfold hid at e
  split at e
  · cases e
  · exact e) h
theorem Da.dr {a : Addr} {v : V} {d : PyData} (h : Da K a H v d) (x : Dr a H H') : Da K a H' v d := dp_keep (fun p o e => by
  unfold hid at e ⊢
  split at e
  · cases e
  · rename_i n
    rw [if_neg n]
    exact x.kp p o n e) h
theorem dp_ne {a : Addr} {v : V} {d : PyData} (n : H a = none) (h : Dp K H v d) : Da K a H v d := dp_keep (fun p o e => by
  unfold hid
  rw [if_neg (ne_of_none e n)]
  exact e) h
/-- equality of data -/
theorem eq_d {v u : V} {d e : PyData} {Q : VK} (h : Dp K H v d) (g : Dp K H u e) (s1 : SeqAt.shaped d = true) (s2 : SeqAt.shaped e = true) (hs : scal v u = false) (q : Q (.bl (PyData.eqv d e)) H) : rEqU K v u H Q := by
  unfold rEqU
  rw [hs]
  exact ⟨d, e, h, g, s1, s2, q⟩
end
/-! ### own exceptions over ValueError, without an own __init__ -/
abbrev veB : List Value := [.type "ValueError", .type "Exception", .type "BaseException", .type "object"]
/-- what the class at C, named x, must say -/
structure Exc (K : PySem.W.Frag) (mg : Str → Option Value) (x : Str) (C : Addr) : Prop where
  g : mg x = some (.ref C)
  x : PySem.W.excIn K C veB "ValueError.__new__" = true
  k : PySem.W.keepIn K (.ref C) = true
  b : PySem.W.subIn K (.ref C) (.type "BaseException") = some true
  t : PySem.W.typeIn K (.ref C) = some (.type "type")
  d : PySem.W.hasDictIn K C = true
  v : PySem.W.subIn K (.ref C) (.type "ValueError") = some true
  cc : ExcC K C
theorem pmk_exc {X : Cx} {x m : Str} {C : Addr} {j : Nat} {p p2 pos : Pos} (e : Exc X.K X.mg x C) (hg : Gl X x := by rfl) (hdb : (x == ("__debug__" : Str)) = false := by decide) :
    PMk X (.Call (.Name x p) [.Constant (.str m) j p2] [] pos) (fun _ H Q => Q (.ref C) none H) :=
  pmk_own PySem.F.excBase_ValueError e.x e.g e.k (raises_own e.b e.t) hg hdb
theorem ps_rai {X : Cx} {x m : Str} {C : Addr} {j : Nat} {p p2 pos pos2 : Pos} {W : WX} (e : Exc X.K X.mg x C) (tk : Takes X W) (hc : X.calm = true := by rfl) (hg : Gl X x := by rfl) (hdb : (x == ("__debug__" : Str)) = false := by decide) :
    PS X (.Raise (some (.Call (.Name x p) [.Constant (.str m) j p2] [] pos)) none pos2) (fun _ σ H => W (.ref C) none σ H) := ps_raise hc tk (pmk_exc e hg hdb)
/-- C is under D, or not -/
theorem exc_under {K : PySem.W.Frag} {mg : Str → Option Value} {x y : Str} {C D : Addr} {b : Bool} (e : Exc K mg x C) (f : Exc K mg y D) (h : PySem.W.subIn K (.ref C) (.ref D) = some b) : PySem.W.exmOne K (.ref C) (.ref D) = some b := PySem.W.exm_ref f.b f.d f.t h
theorem exc_kit {K : PySem.W.Frag} {mg : Str → Option Value} {x y : Str} {C D : Addr} {b : Bool} (f : Exc K mg y D) (hne : C = D → b = true) (h : PySem.W.subIn K (.ref C) (.ref D) = some b) : PySem.W.kitOne K (.ref C) (.ref D) = some b := by
  unfold PySem.W.kitOne
  by_cases e : C = D
  · subst e
    rw [hne rfl]
    simp
  · have n : ((Value.ref C) == Value.ref D) = false := by
      simp only [beq_eq_false_iff_ne, ne_eq, Value.ref.injEq]
      exact e
    rw [n]
    have z := PySem.W.exm_ref f.b f.d f.t h
    unfold PySem.W.exmOne at z
    rw [f.b] at z
    simpa using z
/-- isinstance(e, c) in a suite -/
def rIsX (K : PySem.W.Frag) (cls : Value) (d : Option Addr) (a : Addr) : List V → Hp → VK → Prop := fun xs H Q => ∃ D, cls = .ref D ∧ d = none ∧ ExcC K D ∧ rIsE K D a xs H Q
theorem callU_isX {X : Cx} {K : PySem.W.Frag} {a : Addr} {cls : Value} {d : Option Addr} {oe : Obj} {pn : List (Addr × Obj)} (hz : Zc cls d oe) (hf : ∃ vs, oe.data = .fields vs) (hK : X.K = K := by rfl) : CallR (X.suite a ((a, oe) :: pn)) (.builtin "isinstance") (rIsX K cls d a) := by
  subst hK
  intro pins s σ H xs us Q I r h
  obtain ⟨D, rfl, rfl, c, h⟩ := h
  exact call_isE c hz hf pins s σ H xs us Q I r h
/-- try .. except x as n -/
theorem ps_tryA {X : Cx} {K : PySem.W.Frag} {x n : Str} {C : Addr} {i : Nat} {body suite : List Stmt} {b₀ : Stmt} {np pos pos' : Pos} {tb : WX → TS} {ts : Addr → Value → Option Addr → TS} {Wout : WX} (e : Exc X.K X.mg x C) (hN : X.N.Nodup) (hi : X.N[i]? = some n) (tk : Takes X Wout)
    (hb : ∀ (W : WX) (pn : List (Addr × Obj)) (xe : Value → Shared → Prop), Takes (X.tr pn xe) W → PassesOwn (model X.prog X.w) X.A X.env xe → PSs (X.tr pn xe) body (tb W))
    (hsu : ∀ (a : Addr) (oe : Obj) (cls : Value) (d : Option Addr) (pn : List (Addr × Obj)), Zc cls d oe → (∃ vs, oe.data = .fields vs) → PSs (X.suite a ((a, oe) :: pn)) (b₀ :: suite) (ts a cls d))
    (hs : X.stack = X.env :: X.outer := by rfl) (hf : X.env.frame = some X.env.locals := by rfl) (hln : X.env.kindOf n = some .local := by rfl) (hg : Gl X x := by rfl) (hdb : (x == ("__debug__" : Str)) = false := by decide) (hK : X.K = K := by rfl) :
    PS X (.Try body [.ExceptHandler (some (.Name x np)) (some n) (b₀ :: suite) pos'] [] [] pos) (fun D σ H => tb (wAs K (.ref C) i ts Wout D) D σ H) := by
  subst hK
  exact ps_try_as hs hf hN hi hln ⟨hg, hdb, .inl e.g⟩ tk hb hsu
/-- try .. except x -/
theorem ps_tryO {X : Cx} {K : PySem.W.Frag} {x : Str} {C : Addr} {body suite : List Stmt} {b₀ : Stmt} {np pos pos' : Pos} {tb : WX → TS} {ts : Addr → Value → Option Addr → TS} {Wout : WX} (e : Exc X.K X.mg x C) (tk : Takes X Wout)
    (hb : ∀ (W : WX) (pn : List (Addr × Obj)) (xe : Value → Shared → Prop), Takes (X.tr pn xe) W → PassesOwn (model X.prog X.w) X.A X.env xe → PSs (X.tr pn xe) body (tb W))
    (hsu : ∀ (a : Addr) (oe : Obj) (cls : Value) (d : Option Addr) (pn : List (Addr × Obj)), Zc cls d oe → (∃ vs, oe.data = .fields vs) → PSs (X.suite a ((a, oe) :: pn)) (b₀ :: suite) (ts a cls d))
    (hs : X.stack = X.env :: X.outer := by rfl) (hf : X.env.frame = some X.env.locals := by rfl) (hg : Gl X x := by rfl) (hdb : (x == ("__debug__" : Str)) = false := by decide) (hK : X.K = K := by rfl) :
    PS X (.Try body [.ExceptHandler (some (.Name x np)) none (b₀ :: suite) pos'] [] [] pos) (fun D σ H => tb (wOnly K (.ref C) ts Wout D) D σ H) := by
  subst hK
  exact ps_try_only hs hf ⟨hg, hdb, .inl e.g⟩ tk hb hsu
/-- a call that may raise: what is wished at the caller's slots -/
def cCallE (sp : Sp) (W : WX) (t : TA) : TE := fun σ H Q => t σ H fun vs H1 => sp vs H1 Q fun c d H' => W c d σ H'
end R
namespace R
open PySem PySem.Spec PyProof.Rows L2
section
variable {X : Cx} {k j : Nat} {x m : Str} {ps : List Str} {sp : Sp} {W : WX} {p pos apos : Pos} {e o : Expr} {es : List Expr} {ta : TE} {t : TA} {C : Addr}
theorem mono_a {es : List Expr} {t : TA} (ha : PA X es t) : PA X es (fun σ H Q => ∃ Q0 : List V → Hp → Prop, (∀ v H', Q0 v H' → Q v H') ∧ t σ H Q0) := ⟨fun pos pins s σ H Q I q => by
  obtain ⟨Q0, w, z⟩ := q
  exact thn (ha.run pos pins s σ H Q0 I z) fun u s1 ⟨v, H1, I1, r, q1⟩ => ⟨v, H1, I1, r, w v H1 q1⟩⟩
/-- f(..), f may raise -/
theorem pe_fS (O : Ok X.prog X.w X.K X.mg X.base k x ps sp) (hr : Room k X.A) (tk : Takes X W) (ha : PA X (e :: es) t) (hg : Gl X x := by rfl)
    (hdb : (x == ("__debug__" : Str)) = false := by decide) (he : starEach (e :: es) X.env = (false, eval e X.env) :: starEach es X.env := by rfl) (hpl : (backTo pos (starEach es X.env)).any (·.1) = false := by rfl) :
    PE X (.Call (.Name x p) (e :: es) [] pos) (cCallE sp W t) := by
  obtain ⟨f, fd, h1, h2, h3, F⟩ := O.ex
  exact pe_callS F hr hg h1 h2 h3 (fun σ => passAt tk σ) ha hdb he hpl
/-- a class's def: at C found by the name m -/
structure MtAt (K : PySem.W.Frag) (C : Addr) (m qual : Str) (st : Stmt) (ps : List Str) : Prop where
  ex : ∃ f fd, Meth K C m f ∧ Fun K m qual st f fd ∧ Binds K fd ps []
structure OkM (P : Program) (w : World) (K : PySem.W.Frag) (mg : Str → Option Value) (base : Heap) (k : Nat) (C : Addr) (m : Str) (ps : List Str) (sp : Sp) : Prop where
  ex : ∃ f fd, Meth K C m f ∧ Binds K fd ps [] ∧ FnOk P w K mg base (L2.CX P w) k f fd ps sp
theorem okM {P : Program} {w : World} {K : PySem.W.Frag} {mg : Str → Option Value} {base : Heap} {m qual : Str} {st : Stmt} {N ps : List Str} {k : Nat} {sp : Sp} {C : Addr} (F : MtAt K C m qual st ps) (S : FnScope N ps (defScope st)) (len : ∀ vs H Q E, sp vs H Q E → vs.length = ps.length)
    (hbody : ∀ (f : Addr) (cdv : Value) (A : Around) (outer : List Env) (s : Shared) (H : Hp) (vs : List V) (Q : VK) (E : XK), Room k (A.deeper (envOfC qual (defScope st) s.heap.objs.size f cdv)) → sp vs H Q E →
      ∃ t, PSs (cxOf (L2.CX P w) P w K mg base N qual (defScope st) f cdv A outer s H (bE H E)) (defBody st) t ∧ t { nx := fun _ H' => bQ H Q .non H', rt := bQ H Q } (start N vs) H) : OkM P w K mg base (k + 1) C m ps sp := by
  obtain ⟨f, fd, h1, h2, h3⟩ := F.ex
  exact ⟨f, fd, h1, h3, okX h2 S len (hbody f)⟩
def cMeth (CS : Addr → Prop) (m : Str) (sp : Addr → Sp) (W : WX) (ta : TE) (t : TA) : TE := fun σ H Q => ta σ H fun x H1 => ∃ a C dx fs, x = .ref a ∧ H1 a = some (.ins C dx fs) ∧ CS C ∧ fs.lookup m = none ∧
  t σ H1 fun vs H2 => sp C (x :: vs) H2 Q fun c d H' => W c d σ H'
/-- o.m(..), of an instance of one of the classes CS -/
theorem pe_mS {CS : Addr → Prop} {sp : Addr → Sp} {pl : Sem Bool} (he : PE X o ta) (c : ∀ C, CS C → Cls X.K C) (O : ∀ C, CS C → OkM X.prog X.w X.K X.mg X.base k C m ps (sp C)) (hr : Room k X.A) (tk : Takes X W) (ha : PA X (e :: es) t)
    (hst : starEach (e :: es) X.env = (false, eval e X.env) :: starEach es X.env := by rfl) (hpl : (backTo pos (starEach es X.env)).any (·.1) = false := by rfl)
    (ht : eval (.Call (.Attribute o m apos) (e :: es) [] pos) X.env = (do
      let ov ← eval o X.env
      standAt apos.atName
      let (f, first) ← holding [ov] (getMethod ov m pl)
      callWith pos f first (backTo pos (starEach (e :: es) X.env)) (backToKw pos (keywordEach [] X.env))) := by rfl) :
    PE X (.Call (.Attribute o m apos) (e :: es) [] pos) (cMeth CS m sp W ta t) := by
  refine ⟨fun pins s σ H Q I h => ?_⟩
  refine PySem.W.methodCall_KW (pl := pl) (thn (he.run pins s σ H _ I h) fun u s1 ⟨x, H1, I1, rx, a, C, dx, fs, ex, ea, cs, l, q⟩ => ?_) ht
  subst ex
  obtain rfl : u = Value.ref a := rx
  obtain ⟨f, fd, hm, hb, F⟩ := (O C cs).ex
  refine getmeth_ok I1 ea (c C cs) hm l ?_
  refine PySem.W.callWith_K (first := [.ref a]) (h₀ := X.base) I.ok.mod.kin hm.kp (thn (ha.run pos pins s1 σ H1 _ I1 q) fun us s2 ⟨vs, H2, I2, r, q2⟩ => ⟨I2.kIn, ?_⟩) hst hpl
  exact run_fnS (us := .ref a :: us) (vs := .ref a :: vs) F hr hb (passAt tk σ) I2 (.cons rfl r) q2
theorem pe_mS0 {CS : Addr → Prop} {sp : Addr → Sp} {pl : Sem Bool} (he : PE X o ta) (c : ∀ C, CS C → Cls X.K C) (O : ∀ C, CS C → OkM X.prog X.w X.K X.mg X.base k C m ps (sp C)) (hr : Room k X.A) (tk : Takes X W)
    (ht : eval (.Call (.Attribute o m apos) [] [] pos) X.env = (do
      let ov ← eval o X.env
      standAt apos.atName
      let (f, first) ← holding [ov] (getMethod ov m pl)
      callWith pos f first (backTo pos (starEach [] X.env)) (backToKw pos (keywordEach [] X.env))) := by rfl) :
    PE X (.Call (.Attribute o m apos) [] [] pos) (cMeth CS m sp W ta tNil) := by
  refine ⟨fun pins s σ H Q I h => ?_⟩
  refine PySem.W.methodCall_KW (pl := pl) (thn (he.run pins s σ H _ I h) fun u s1 ⟨x, H1, I1, rx, a, C, dx, fs, ex, ea, cs, l, q⟩ => ?_) ht
  subst ex
  obtain rfl : u = Value.ref a := rx
  obtain ⟨f, fd, hm, hb, F⟩ := (O C cs).ex
  refine getmeth_ok I1 ea (c C cs) hm l ?_
  exact PySem.W.callWith_K0 (first := [.ref a]) I1.kIn hm.kp (run_fnS (us := [.ref a]) (vs := [.ref a]) F hr hb (passAt tk σ) I1 (.cons rfl .nil) q)
/-- a class that makes instances -/
structure MkAt (K : PySem.W.Frag) (mg : Str → Option Value) (x : Str) (C : Addr) (qual : Str) (st : Stmt) (ps : List Str) : Prop where
  ex : mg x = some (.ref C) ∧ ∃ f fd, Mk K C f ∧ Fun K "__init__" qual st f fd ∧ Binds K fd ps []
structure OkI (P : Program) (w : World) (K : PySem.W.Frag) (mg : Str → Option Value) (base : Heap) (k : Nat) (x : Str) (C : Addr) (ps : List Str) (sp : Sp) : Prop where
  ex : mg x = some (.ref C) ∧ ∃ f fd, Mk K C f ∧ Binds K fd ps [] ∧ FnOk P w K mg base (L2.CX P w) k f fd ps sp
theorem okI {P : Program} {w : World} {K : PySem.W.Frag} {mg : Str → Option Value} {base : Heap} {x qual : Str} {st : Stmt} {N ps : List Str} {k : Nat} {sp : Sp} {C : Addr} (F : MkAt K mg x C qual st ps) (S : FnScope N ps (defScope st)) (len : ∀ vs H Q E, sp vs H Q E → vs.length = ps.length)
    (hbody : ∀ (f : Addr) (cdv : Value) (A : Around) (outer : List Env) (s : Shared) (H : Hp) (vs : List V) (Q : VK) (E : XK), Room k (A.deeper (envOfC qual (defScope st) s.heap.objs.size f cdv)) → sp vs H Q E →
      ∃ t, PSs (cxOf (L2.CX P w) P w K mg base N qual (defScope st) f cdv A outer s H (bE H E)) (defBody st) t ∧ t { nx := fun _ H' => bQ H Q .non H', rt := bQ H Q } (start N vs) H) : OkI P w K mg base (k + 1) x C ps sp := by
  obtain ⟨g, f, fd, h1, h2, h3⟩ := F.ex
  exact ⟨g, f, fd, h1, h3, okX h2 S len (hbody f)⟩
/-- C(..) -/
def cMake (C : Addr) (sp : Sp) (W : WX) (t : TA) : TE := fun σ H Q => t σ H fun vs H1 => ∀ x dx, H1 x = none → H1 dx = none → dx ≠ x →
  sp (.ref x :: vs) (upd (upd H1 dx (.own x)) x (.ins C dx [])) (fun v H2 => v = .non ∧ Q (.ref x) H2) fun c d H' => W c d σ H'
theorem run_makeS {pins : List (Addr × Obj)} {σ : L2.St} {H : Hp} {s : Shared} {Q : VK} {us : List Value} {vs : List V} {f : Addr} {fd : FuncData} (M : Mk X.K C f) (F : FnOk X.prog X.w X.K X.mg X.base (L2.CX X.prog X.w) k f fd ps sp) (hr : Room (k + 1) X.A) (hb : Binds X.K fd ps []) (tk : Takes X W)
    (I : Inv X pins σ H s) (r : Vals vs us)
    (h : ∀ x dx, H x = none → H dx = none → dx ≠ x → sp (.ref x :: vs) (upd (upd H dx (.own x)) x (.ins C dx [])) (fun v H2 => v = .non ∧ Q (.ref x) H2) fun c d H' => W c d σ H') :
    wpAny (model X.prog X.w) X.A (call (.ref C) us) (EP X pins σ Q) X.xe s := by
  have hq := h (s.heap.objs.size + 1) s.heap.objs.size (I.hok.fresh (Nat.le_succ _)) (I.hok.fresh (Nat.le_refl _)) (Nat.ne_of_lt (Nat.lt_succ_self _))
  have I2 := Inv.made (C := C) I
  have r2 : Vals (V.ref (s.heap.objs.size + 1) :: vs) (Value.ref (s.heap.objs.size + 1) :: us) := .cons rfl r
  have hl : (Value.ref (s.heap.objs.size + 1) :: us).length = ps.length := by
    have e := r2.length
    rw [F.len _ _ _ _ hq] at e
    exact e.symm
  have b := hb _ (Value.ref (s.heap.objs.size + 1) :: us) I2.kIn (by rw [List.append_nil]; exact hl)
  rw [List.append_nil] at b
  refine wpAny_call (make_map (f := f) I.kIn M.makes M.init (beq_iff_eq.mp M.fn) (codeAny_mono (F.run _ X.stack _ _ ⟨Value.ref (s.heap.objs.size + 1) :: us, []⟩ (Value.ref (s.heap.objs.size + 1) :: us) _ _ _ (hr.make C us [])
    (I2.env0.make C us []) b r2 hq) fun r s' hq' => ?_))
  cases r with
  | error e => exact passAt tk σ pins _ _ e s' I2 hq'
  | ok fl =>
    cases fl with
    | ret u =>
      obtain ⟨v, H', I3, rv, ev, q3⟩ := I2.after hq'
      subst ev
      exact ⟨rv, ⟨V.ref (s.heap.objs.size + 1), H', I3, rfl, q3⟩⟩
    | next => exact False.elim hq'
    | brk => exact False.elim hq'
    | cont => exact False.elim hq'
theorem pe_mkS (O : OkI X.prog X.w X.K X.mg X.base k x C ps sp) (hr : Room (k + 1) X.A) (tk : Takes X W) (ha : PA X (e :: es) t) (hg : Gl X x := by rfl)
    (hdb : (x == ("__debug__" : Str)) = false := by decide) (he : starEach (e :: es) X.env = (false, eval e X.env) :: starEach es X.env := by rfl) (hpl : (backTo pos (starEach es X.env)).any (·.1) = false := by rfl) :
    PE X (.Call (.Name x p) (e :: es) [] pos) (cMake C sp W t) := by
  obtain ⟨g, f, fd, M, hb, F⟩ := O.ex
  refine ⟨fun pins s σ H Q I h => ?_⟩
  refine wpAny_Call_Name_kw (ld_glob I hg g ?_ hdb)
  refine PySem.W.callWith_K (h₀ := X.base) I.ok.mod.kin M.kp (thn (ha.run pos pins s σ H _ I h) fun us s1 ⟨vs, H1, I1, r, q⟩ => ⟨I1.kIn, ?_⟩) he hpl
  exact run_makeS M F hr hb tk I1 r q
theorem pe_mkS0 (O : OkI X.prog X.w X.K X.mg X.base k x C ps sp) (hr : Room (k + 1) X.A) (tk : Takes X W) (hg : Gl X x := by rfl)
    (hdb : (x == ("__debug__" : Str)) = false := by decide) : PE X (.Call (.Name x p) [] [] pos) (cMake C sp W tNil) := by
  obtain ⟨g, f, fd, M, hb, F⟩ := O.ex
  refine ⟨fun pins s σ H Q I h => ?_⟩
  refine wpAny_Call_Name_kw (ld_glob I hg g ?_ hdb)
  exact PySem.W.callWith_K0 I.kIn M.kp (run_makeS (us := []) M F hr hb tk I .nil h)
/-- what isinstance asks of an own class's instance -/
structure OwnC (K : PySem.W.Frag) (mg : Str → Option Value) (x : Str) (C : Addr) : Prop where
  g : mg x = some (.ref C)
  cl : Cls K C
  ha : PySem.W.findIn K (.ref C) "__class__" = some (some (.builtin "object.__class__"))
  hn : PySem.W.specialIn K (.builtin "object.__class__") "__get__" = some (some (.builtin "getset_descriptor.__get__"))
  ht : PySem.W.takesIn K (.builtin "object.__class__") = some true
  hm : PySem.W.mroIn K C (.type "object") = some true
theorem OwnC.ty {K : PySem.W.Frag} {mg : Str → Option Value} {x : Str} {C a dx : Addr} {H : Hp} {fs : List (Str × V)} (o : OwnC K mg x C) (h : H a = some (.ins C dx fs)) : TyX K H (.ref a) (.ref C) := .base (.ins h o.cl o.ha o.hn o.ht o.hm)
theorem Wf.ins {H : Hp} {a C dx : Addr} {fs gs : List (Str × V)} (w : Wf H) (h : H a = some (.ins C dx fs)) : Wf (upd H a (.ins C dx gs)) := fun b u e => by
  have hd : H dx = some (.own a) := by
    rcases w a _ h with f | ⟨C', dx', fs', e', hd⟩
    · exact f.elim
    · cases e'
      exact hd
  have nda : dx ≠ a := ne_of hd h (fun z => by cases z)
  by_cases hb : b = a
  · subst hb
    rw [upd_same] at e
    cases e
    exact .inr ⟨C, dx, gs, rfl, by rw [upd_ne nda]; exact hd⟩
  · rw [upd_ne hb] at e
    rcases w b u e with f | ⟨C', dx', fs', rfl, hd'⟩
    · exact .inl f
    · refine .inr ⟨C', dx', fs', rfl, ?_⟩
      have n : dx' ≠ a := ne_of hd' h (fun z => by cases z)
      rw [upd_ne n]
      exact hd'
/-- a new instance stands -/
theorem Wf.made {H : Hp} {x dx C : Addr} {fs : List (Str × V)} (w : Wf H) (nx : H x = none) (nd : H dx = none) (ne : dx ≠ x) : Wf (upd (upd H dx (.own x)) x (.ins C dx fs)) := fun b u e => by
  by_cases hb : b = x
  · subst hb
    rw [upd_same] at e
    cases e
    exact .inr ⟨C, dx, fs, rfl, by rw [upd_ne ne, upd_same]⟩
  · rw [upd_ne hb] at e
    by_cases hd : b = dx
    · subst hd
      rw [upd_same] at e
      cases e
      exact .inl trivial
    · rw [upd_ne hd] at e
      rcases w b u e with f | ⟨C', dx', fs', rfl, h⟩
      · exact .inl f
      · refine .inr ⟨C', dx', fs', rfl, ?_⟩
        rw [upd_ne (ne_of_none h nx), upd_ne (ne_of_none h nd)]
        exact h
end
end R
namespace R
open PySem PySem.Spec PyProof.Rows L2
theorem dpa5 {K : PySem.W.Frag} {H : Hp} {xs : List V} {ds : List PyData} (h : DpAll K H xs ds) (l : xs.length = 5) :
    ∃ x1 x2 x3 x4 x5 d1 d2 d3 d4 d5, xs = [x1, x2, x3, x4, x5] ∧ ds = [d1, d2, d3, d4, d5] ∧ Dp K H x1 d1 ∧ Dp K H x2 d2 ∧ Dp K H x3 d3 ∧ Dp K H x4 d4 ∧ Dp K H x5 d5 := by
  cases h with
  | nil => cases l
  | cons g1 h =>
    cases h with
    | nil => cases l
    | cons g2 h =>
      cases h with
      | nil => cases l
      | cons g3 h =>
        cases h with
        | nil => cases l
        | cons g4 h =>
          cases h with
          | nil => cases l
          | cons g5 h =>
            cases h with
            | nil => exact ⟨_, _, _, _, _, _, _, _, _, _, rfl, rfl, g1, g2, g3, g4, g5⟩
            | cons g6 h => simp at l
end R
namespace R
open PySem PySem.Spec PyProof.Rows L2
theorem hid_at {a b : Addr} {H : Hp} {o : HO} (n : b ≠ a) (h : H b = some o) : hid a H b = some o := by
  unfold hid
  rw [if_neg n]
  exact h
theorem exc_is {K : PySem.W.Frag} {mg : Str → Option Value} {x y : Str} {C D : Addr} {b : Bool} (e : Exc K mg x C) (s : PySem.W.subIn K (.ref C) (.ref C) = some true) (f : Exc K mg y D) (h : PySem.W.subIn K (.ref C) (.ref D) = some b) : PySem.W.kitOne K (.ref C) (.ref D) = some b :=
  exc_kit (x := x) f (fun z => by
    subst z
    rw [s] at h
    exact (Option.some.inj h).symm) h
theorem exc_ve {K : PySem.W.Frag} {mg : Str → Option Value} {x : Str} {C : Addr} (e : Exc K mg x C) : PySem.W.kitOne K (.ref C) (.type "ValueError") = some true := by
  unfold PySem.W.kitOne
  have n : ((Value.ref C) == Value.type "ValueError") = false := by simp
  rw [n]
  have m : PySem.W.kitMeta "ValueError" = true := by decide +kernel
  unfold PySem.W.kitCls
  simp only [m, if_true]
  simpa using e.v
theorem at_last {α : Type} {xs : List α} (h : xs ≠ []) : ∃ v, atI xs (-1) = some v ∧ v ∈ xs := by
  refine ⟨xs.getLast h, ?_, List.getLast_mem h⟩
  conv => lhs; rw [← List.dropLast_concat_getLast h]
  exact atI_last _ _
theorem cut_mem {xs : List V} {lo hi : Option Int} {v : V} (h : v ∈ cutV xs lo hi) : v ∈ xs := by
  unfold cutV at h
  exact List.mem_of_mem_drop (List.mem_of_mem_take h)
theorem cut_len {xs : List V} {lo hi : Option Int} : (cutV xs lo hi).length ≤ xs.length := by
  unfold cutV
  rw [List.length_take, List.length_drop]
  omega
end R
namespace R
open PySem PySem.Spec PyProof.Rows L2
theorem Dr.free {a p : Addr} {H H' : Hp} (x : Dr a H H') (n : H' p = none) : H p = none := by
  cases e : H p with
  | none => rfl
  | some o =>
    by_cases h : p = a
    · subst h
      obtain ⟨_, _, z, _⟩ := x.st
      rw [n] at z
      cases z
    · rw [x.kp p o h e] at n
      cases n
end R
namespace R
open PySem PySem.Spec PyProof.Rows L2
theorem tups_put {K : PySem.W.Frag} {H : Hp} {R : Addr} {xs : List V} {o : HO} (e : H R = some (.lst xs)) : ∀ p ys, SqT K H p ys → SqT K (upd H R o) p ys := fun p ys h => by
  rcases h with (h | ⟨z, h⟩) | h
  · exact .inl (.inl (by rw [upd_ne (ne_of h e (fun z => by cases z))]; exact h))
  · exact .inl (.inr ⟨z, by rw [upd_ne (ne_of h e (fun z => by cases z))]; exact h⟩)
  · exact .inr h
theorem same_put {H H' : Hp} {R : Addr} {o : HO} (s : Same H H') (n : H R = none) : Same H (upd H' R o) := fun b u e => by
  rw [upd_ne (ne_of_none e n)]
  exact s b u e
theorem st_put {H : Hp} {a R : Addr} {o : HO} (s : St2 H a) (n : R ≠ a) : St2 (upd H R o) a := by
  obtain ⟨p, q, e, h⟩ := s
  exact ⟨p, q, by rw [upd_ne n.symm]; exact e, h⟩
end R
namespace R
open PySem PySem.Spec PyProof.Rows L2
theorem pe_xc {X : Cx} {x : Str} {C : Addr} {pos : Pos} (e : Exc X.K X.mg x C) (hg : Gl X x := by rfl) (hd : (x == ("__debug__" : Str)) = false := by decide) : PE X (.Name x pos) (tC (.ref C)) := pe_glob hg e.g rfl hd
theorem pe_oc {X : Cx} {x : Str} {C : Addr} {pos : Pos} (e : OwnC X.K X.mg x C) (hg : Gl X x := by rfl) (hd : (x == ("__debug__" : Str)) = false := by decide) : PE X (.Name x pos) (tC (.ref C)) := pe_glob hg e.g rfl hd
theorem stL_ne {p q : Int} {xs : List V} : HO.tup xs ≠ stL p q := fun z => by cases z
theorem Dr.tups {K : PySem.W.Frag} {a : Addr} {H H' : Hp} (x : Dr a H H') (s : St2 H a) : ∀ p xs, SqT K H p xs → SqT K H' p xs := fun p xs h => by
  rcases h with (h | ⟨o, h⟩) | h
  · exact .inl (.inl (x.at h (fun _ _ => stL_ne) s))
  · refine .inl (.inr ⟨o, x.at h (fun _ _ z => by cases z) s⟩)
  · exact .inr h
theorem same_tups {K : PySem.W.Frag} {H H' : Hp} (x : Same H H') : ∀ p xs, SqT K H p xs → SqT K H' p xs := fun p xs h => sqt_keep (fun o e => x p o e) h
end R
namespace R
open PySem PySem.Spec PyProof.Rows L2
/-- two lists side by side -/
inductive Al2 {α β : Type} (P : α → β → Prop) : List α → List β → Prop where
  | nil : Al2 P [] []
  | cons {a b xs ys} : P a b → Al2 P xs ys → Al2 P (a :: xs) (b :: ys)
namespace Al2
variable {α β : Type} {P P' : α → β → Prop}
theorem len : ∀ {xs : List α} {ys : List β}, Al2 P xs ys → xs.length = ys.length
  | _, _, .nil => rfl
  | _, _, .cons _ h => by rw [List.length_cons, List.length_cons, len h]
theorem mono (f : ∀ a b, P a b → P' a b) : ∀ {xs : List α} {ys : List β}, Al2 P xs ys → Al2 P' xs ys
  | _, _, .nil => .nil
  | _, _, .cons p h => .cons (f _ _ p) (mono f h)
theorem snoc {a : α} {b : β} (p : P a b) : ∀ {xs : List α} {ys : List β}, Al2 P xs ys → Al2 P (xs ++ [a]) (ys ++ [b])
  | _, _, .nil => .cons p .nil
  | _, _, .cons q h => .cons q (snoc p h)
theorem app : ∀ {xs : List α} {ys : List β} {us : List α} {vs : List β}, Al2 P xs ys → Al2 P us vs → Al2 P (xs ++ us) (ys ++ vs)
  | _, _, _, _, .nil, g => g
  | _, _, _, _, .cons q h, g => .cons q (app h g)
theorem nth : ∀ {xs : List α} {ys : List β} {i : Nat} {a : α}, Al2 P xs ys → xs[i]? = some a → ∃ b, ys[i]? = some b ∧ P a b
  | _, _, _, _, .nil, e => by simp at e
  | _, _, 0, _, .cons p _, e => by
    simp at e
    subst e
    exact ⟨_, rfl, p⟩
  | _, _, _ + 1, _, .cons _ h, e => by
    simp at e
    obtain ⟨b, e2, p⟩ := nth h e
    exact ⟨b, by simpa using e2, p⟩
theorem mem {xs : List α} {ys : List β} {a : α} (h : Al2 P xs ys) (m : a ∈ xs) : ∃ b, b ∈ ys ∧ P a b := by
  obtain ⟨i, hi, rfl⟩ := List.getElem_of_mem m
  obtain ⟨b, e, p⟩ := h.nth (List.getElem?_eq_getElem hi)
  exact ⟨b, List.mem_of_getElem? e, p⟩
end Al2
/-- a place in a list, with what stands beside it -/
theorem Al2.at {β : Type} {P : V → β → Prop} {xs : List V} {ys : List β} {i : Int} (h : Al2 P xs ys) (h0 : 0 ≤ i) (h1 : i < xs.length) : ∃ v b, atI xs i = some v ∧ ys[i.toNat]? = some b ∧ P v b := by
  obtain ⟨j, rfl⟩ : ∃ j : Nat, i = j := ⟨i.toNat, by omega⟩
  have hj : j < xs.length := by omega
  obtain ⟨b, e, p⟩ := h.nth (List.getElem?_eq_getElem hj)
  exact ⟨xs[j], b, atI_nat (List.getElem?_eq_getElem hj), e, p⟩
end R
namespace W
open PySem PySem.Spec PyProof.Rows L2 R
def topS (i : Nat) : Stmt := PySem.Challenge.pw_rowlent_k03_what_is_no_work.main.body.getD i (.Pass ⟨0, 0, 0, 0⟩)

structure Ad where
  LentError : Addr
  NoWork : Addr
  IsIn : Addr
  NoRule : Addr
  NoTry : Addr
  NoMoment : Addr
  NoGroup : Addr
  NoHouse : Addr
  NoRow : Addr
  Work : Addr
  Loose : Addr
  Grouped : Addr

structure Txt (K : PySem.W.Frag) (mg : Str → Option Value) (c : Ad) : Prop where
  m_all : mg "all" = none
  m_isinstance : mg "isinstance" = none
  m_str : mg "str" = none
  m_len : mg "len" = none
  m_int : mg "int" = none
  m_bool : mg "bool" = none
  m_tuple : mg "tuple" = none
  m_range : mg "range" = none
  m_list : mg "list" = none
  m_ValueError : mg "ValueError" = none
  m_min : mg "min" = none
  g_MOST_LETTERS : GlV mg "MOST_LETTERS" (.int 8)
  g_LETTERS : GlV mg "LETTERS" (.str "abcdefghijklmnopqrstuvwxyz")
  g_MOST_MOMENT : GlV mg "MOST_MOMENT" (.int 1000000000000)
  g_MOST_PLACE : GlV mg "MOST_PLACE" (.int 1000000000)
  x_LentError : Exc K mg "LentError" c.LentError
  x_NoWork : Exc K mg "NoWork" c.NoWork
  x_IsIn : Exc K mg "IsIn" c.IsIn
  x_NoRule : Exc K mg "NoRule" c.NoRule
  x_NoTry : Exc K mg "NoTry" c.NoTry
  x_NoMoment : Exc K mg "NoMoment" c.NoMoment
  x_NoGroup : Exc K mg "NoGroup" c.NoGroup
  x_NoHouse : Exc K mg "NoHouse" c.NoHouse
  x_NoRow : Exc K mg "NoRow" c.NoRow
  u_NoWork_LentError : PySem.W.subIn K (.ref c.NoWork) (.ref c.LentError) = some true
  u_NoWork_IsIn : PySem.W.subIn K (.ref c.NoWork) (.ref c.IsIn) = some false
  u_NoWork_NoGroup : PySem.W.subIn K (.ref c.NoWork) (.ref c.NoGroup) = some false
  u_NoWork_NoHouse : PySem.W.subIn K (.ref c.NoWork) (.ref c.NoHouse) = some false
  u_NoWork_NoMoment : PySem.W.subIn K (.ref c.NoWork) (.ref c.NoMoment) = some false
  u_NoWork_NoRow : PySem.W.subIn K (.ref c.NoWork) (.ref c.NoRow) = some false
  u_NoWork_NoRule : PySem.W.subIn K (.ref c.NoWork) (.ref c.NoRule) = some false
  u_NoWork_NoTry : PySem.W.subIn K (.ref c.NoWork) (.ref c.NoTry) = some false
  u_NoWork_NoWork : PySem.W.subIn K (.ref c.NoWork) (.ref c.NoWork) = some true
  s_Loose_Work : PySem.W.kitOne K (.ref c.Loose) (.ref c.Work) = some true
  s_Loose_Loose : PySem.W.kitOne K (.ref c.Loose) (.ref c.Loose) = some true
  s_Loose_Grouped : PySem.W.kitOne K (.ref c.Loose) (.ref c.Grouped) = some false
  s_Grouped_Work : PySem.W.kitOne K (.ref c.Grouped) (.ref c.Work) = some true
  s_Grouped_Loose : PySem.W.kitOne K (.ref c.Grouped) (.ref c.Loose) = some false
  s_Grouped_Grouped : PySem.W.kitOne K (.ref c.Grouped) (.ref c.Grouped) = some true
  o_Work : OwnC K mg "Work" c.Work
  o_Loose : OwnC K mg "Loose" c.Loose
  o_Grouped : OwnC K mg "Grouped" c.Grouped
  i_Work : MkAt K mg "Work" c.Work "Work.__init__" (inClass (topS 20) 0) ["self", "name", "house", "ready", "group", "place"]
  m_Work_told : MtAt K c.Work "told" "Work.told" (inClass (topS 20) 1) ["self"]
  n_Work_name : NoAttr K c.Work "name"
  n_Work_house : NoAttr K c.Work "house"
  n_Work_ready : NoAttr K c.Work "ready"
  n_Work_group : NoAttr K c.Work "group"
  n_Work_place : NoAttr K c.Work "place"
  i_Loose : MkAt K mg "Loose" c.Loose "Work.__init__" (inClass (topS 20) 0) ["self", "name", "house", "ready", "group", "place"]
  m_Loose_told : MtAt K c.Loose "told" "Work.told" (inClass (topS 20) 1) ["self"]
  n_Loose_name : NoAttr K c.Loose "name"
  n_Loose_house : NoAttr K c.Loose "house"
  n_Loose_ready : NoAttr K c.Loose "ready"
  n_Loose_group : NoAttr K c.Loose "group"
  n_Loose_place : NoAttr K c.Loose "place"
  i_Grouped : MkAt K mg "Grouped" c.Grouped "Work.__init__" (inClass (topS 20) 0) ["self", "name", "house", "ready", "group", "place"]
  m_Grouped_told : MtAt K c.Grouped "told" "Work.told" (inClass (topS 20) 1) ["self"]
  n_Grouped_name : NoAttr K c.Grouped "name"
  n_Grouped_house : NoAttr K c.Grouped "house"
  n_Grouped_ready : NoAttr K c.Grouped "ready"
  n_Grouped_group : NoAttr K c.Grouped "group"
  n_Grouped_place : NoAttr K c.Grouped "place"
  f_is_name : FnAt K mg "is_name" "is_name" (topS 15) ["thing"]
  f_is_whole : FnAt K mg "is_whole" "is_whole" (topS 16) ["thing", "low", "high"]
  f_is_moment : FnAt K mg "is_moment" "is_moment" (topS 17) ["thing"]
  f_is_work : FnAt K mg "is_work" "is_work" (topS 23) ["told"]
  f_work_of : FnAt K mg "work_of" "work_of" (topS 24) ["told"]
  f__law_cell_at : FnAt K mg "_law_cell_at" "_law_cell_at" (topS 26) ["_law_script", "_law_k"]
  f__law_state : FnAt K mg "_law_state" "_law_state" (topS 27) ["_law_cell", "_law_k"]
  f__law_mixed : FnAt K mg "_law_mixed" "_law_mixed" (topS 28) ["_law_number"]
  f__law_digit : FnAt K mg "_law_digit" "_law_digit" (topS 29) ["_law_state_here", "_law_base"]
  f__law_name : FnAt K mg "_law_name" "_law_name" (topS 30) ["_law_state_here"]
  f__law_no_name : FnAt K mg "_law_no_name" "_law_no_name" (topS 31) ["_law_state_here"]
  f__law_no_number : FnAt K mg "_law_no_number" "_law_no_number" (topS 32) ["_law_state_here", "_law_most"]
  f__law_spoilt : FnAt K mg "_law_spoilt" "_law_spoilt" (topS 33) ["_law_state_here", "_law_told"]
  f__law_refused : FnAt K mg "_law_refused" "_law_refused" (topS 34) ["_law_thing"]

def fs_Work (v0 v1 v2 v3 v4 : V) : List (Str × V) := [(("name" : Str), v0), (("house" : Str), v1), (("ready" : Str), v2), (("group" : Str), v3), (("place" : Str), v4)]
def cs_Loose (c : Ad) (C : Addr) : Prop := C = c.Loose
theorem okc_Loose {K : PySem.W.Frag} {mg : Str → Option Value} {c : Ad} (T : Txt K mg c) : ∀ C, cs_Loose c C → Cls K C := fun C h => by
  have e : C = c.Loose := h
  subst e
  exact T.o_Loose.cl
def cs_Grouped (c : Ad) (C : Addr) : Prop := C = c.Grouped
theorem okc_Grouped {K : PySem.W.Frag} {mg : Str → Option Value} {c : Ad} (T : Txt K mg c) : ∀ C, cs_Grouped c C → Cls K C := fun C h => by
  have e : C = c.Grouped := h
  subst e
  exact T.o_Grouped.cl

abbrev lets : List Nat := ("abcdefghijklmnopqrstuvwxyz" : Str).cps.toList
def isNameB : V → Bool
  | .str z => decide (1 ≤ (z.length : Int)) && decide ((z.length : Int) ≤ 8) && z.cps.toList.all fun c => decide (c ∈ lets)
  | _ => false
def isWholeB : V → Int → Int → Bool
  | .int n, a, b => decide (a ≤ n) && decide (n ≤ b)
  | _, _, _ => false
def Short (v : V) : Prop := ∀ z, v = .str z → z.length ≤ 1000000 ∧ sOk z

abbrev s_is_name : Stmt := topS 15
abbrev N_is_name : List Str := ["thing", "sign"]
theorem sc_is_name : FnScope N_is_name ["thing"] (defScope s_is_name) := ⟨rfl, rfl, rfl, by decide +kernel, rfl, by decide +kernel, by decide +kernel⟩
def sp_is_name (K : PySem.W.Frag) (c : Ad) : Sp := fun vs H Q E => arg1 (fun v => Kn K H v ∧ Short v ∧ Wf H ∧ Q (.bl (isNameB v)) H) vs
theorem ok_is_name {P : Program} {w : World} {K : PySem.W.Frag} {mg : Str → Option Value} {base : Heap} {c : Ad} (T : Txt K mg c) : Ok P w K mg base 1 "is_name" ["thing"] (sp_is_name K c) := by
  refine okF T.f_is_name sc_is_name (fun vs H Q E h => ?_) (fun f cdv A outer sh H vs Q E hr h => ?_)
  · obtain ⟨v, rfl, h⟩ := arg1.ex h
    rfl
  · obtain ⟨v, rfl, h⟩ := arg1.ex h
    have tk : Takes (cxOf (L2.CX P w) P w K mg base N_is_name "is_name" (defScope s_is_name) f cdv A outer sh H (bE H E)) (fun cls d _ H' => bE H E cls d H') := takes_of rfl rfl rfl rfl
    refine ⟨_, pss_cons (ps_if (PW.pt (pw_or (pt_not (pt_truthU (K := K) (pe_callB (callU_isi (K := K)) (by rfl) T.m_isinstance (by decide +kernel) (pa_cons (lv 0) (pa_cons (pe_ty "str" T.m_str) pa_nil))) (by intro _; rfl))) (pw_or1 (pt_not (pt_chainU opU_le opU_le pe_int (pe_callB (callU_len (K := K)) (by rfl) T.m_len (by decide +kernel) (pa_cons (lv 0) pa_nil)) (pe_g T.g_MOST_LETTERS))))))
      (pss_one (ps_ret pe_bl)) pss_nil)
      (pss_one (ps_ret (pe_callB (callU_all (K := K) rfl) (by rfl) T.m_all (by decide +kernel) (pa_cons (pe_lc (own := [("sign", 1)]) (g := gName 1) rfl sc_is_name.nd (pi_str (lv 0)) (blkOk_by (own := [("sign", 1)]) (N := N_is_name) (sc := defScope s_is_name) (by decide +kernel)) (fun _ _ _ _ _ => pg_name (i := 1) sc_is_name.nd rfl (.inl rfl)) (fun _ _ _ _ _ => pts_nil) (fun _ _ _ _ _ => pe_cmpR (opU_in (K := K)) (lv 1) (pe_g T.g_LETTERS) (by rfl))) pa_nil)))), ?_⟩
    obtain ⟨hk, hz, wf, k⟩ := h
    refine ⟨_, isk_str hk, ?_⟩
    cases v with
    | str z =>
      refine ⟨line_of (Nat.le_trans ((hz z rfl).1) (by decide)), ?_⟩
      refine iteC (p := 1 ≤ (z.length : Int)) (fun h1 => ?_) (fun h1 => ?_)
      · refine iteB (fun h2' => ?_) (fun h2' => ?_)
        · have h2 := nd_t h2'
          refine bQ.same wf (Same.refl _) ?_
          have e2 : isNameB (.str z) = false := by
            show (decide (1 ≤ (z.length : Int)) && decide ((z.length : Int) ≤ 8) && _) = _
            rw [decide_eq_false h2, Bool.and_false, Bool.false_and]
          rw [← e2]
          exact k
        · have h2 := nd_f h2'
          refine ⟨z, rfl, fun D nD => ?_⟩
          refine lc_map (walk_str (z := z)) (fun i x => ∃ c, z.cps[i]? = some c ∧ x = .str ⟨#[c]⟩) (fun i H x H' h => h) (fun i => .bl (decide (z.cps.toList.getD i 0 ∈ lets))) (line_lt (Nat.lt_of_le_of_lt ((hz z rfl).1) (by decide))) (fun _ => trivial) (fun i x acc C hi hx hC => ?_) ?_
          · obtain ⟨c, hc, rfl⟩ := hx
            have e : z.cps.toList.getD i 0 = c := by simp [hc]
            rw [e] at hC
            refine ⟨rfl, c, rfl, ?_⟩
            simpa using hC
          · refine ⟨(List.range z.cps.size).map fun i => decide (z.cps.toList.getD i 0 ∈ lets), .inl (.inl ?_), ?_⟩
            · rw [upd_same, List.map_map]
              rfl
            · refine bQ.same wf (same_new nD) ?_
              have e : ((List.range z.cps.size).map fun i => decide (z.cps.toList.getD i 0 ∈ lets)) = z.cps.toList.map fun c => decide (c ∈ lets) := by
                rw [← R.range_getD z.cps.toList 0 fun c => decide (c ∈ lets)]
                rfl
              rw [e]
              have e2 : isNameB (.str z) = (z.cps.toList.map fun c => decide (c ∈ lets)).all id := by
                show (decide (1 ≤ (z.length : Int)) && decide ((z.length : Int) ≤ 8) && _) = _
                rw [decide_eq_true h1, decide_eq_true h2, List.all_map]
                rfl
              rw [e2] at k
              exact k
      · refine bQ.same wf (Same.refl _) ?_
        have e2 : isNameB (.str z) = false := by
          show (decide (1 ≤ (z.length : Int)) && decide ((z.length : Int) ≤ 8) && _) = _
          rw [decide_eq_false h1, Bool.false_and, Bool.false_and]
        rw [← e2]
        exact k
    | non => exact bQ.same wf (Same.refl _) k
    | bl b => exact bQ.same wf (Same.refl _) k
    | int n => exact bQ.same wf (Same.refl _) k
    | ref p => exact bQ.same wf (Same.refl _) k
    | byt b => exact hk.elim
    | flt b => exact hk.elim
    | ty b => exact hk.elim

abbrev s_is_whole : Stmt := topS 16
abbrev N_is_whole : List Str := ["thing", "low", "high"]
theorem sc_is_whole : FnScope N_is_whole ["thing", "low", "high"] (defScope s_is_whole) := ⟨rfl, rfl, rfl, by decide +kernel, rfl, by decide +kernel, by decide +kernel⟩
def sp_is_whole (K : PySem.W.Frag) (c : Ad) : Sp := fun vs H Q E => arg3 (fun v lo hi => ∃ a b, lo = .int a ∧ hi = .int b ∧ Kn K H v ∧ Wf H ∧ Q (.bl (isWholeB v a b)) H) vs
theorem ok_is_whole {P : Program} {w : World} {K : PySem.W.Frag} {mg : Str → Option Value} {base : Heap} {c : Ad} (T : Txt K mg c) : Ok P w K mg base 1 "is_whole" ["thing", "low", "high"] (sp_is_whole K c) := by
  refine okF T.f_is_whole sc_is_whole (fun vs H Q E h => ?_) (fun f cdv A outer sh H vs Q E hr h => ?_)
  · obtain ⟨v, lo, hi, rfl, h⟩ := arg3.ex h
    rfl
  · obtain ⟨v, lo, hi, rfl, h⟩ := arg3.ex h
    have tk : Takes (cxOf (L2.CX P w) P w K mg base N_is_whole "is_whole" (defScope s_is_whole) f cdv A outer sh H (bE H E)) (fun cls d _ H' => bE H E cls d H') := takes_of rfl rfl rfl rfl
    refine ⟨_, pss_one (ps_ret (pe_andU (K := K) (pe_callB (callU_isi (K := K)) (by rfl) T.m_isinstance (by decide +kernel) (pa_cons (lv 0) (pa_cons (pe_ty "int" T.m_int) pa_nil))) (pe_andU (K := K) (pe_notU (K := K) (pe_callB (callU_isi (K := K)) (by rfl) T.m_isinstance (by decide +kernel) (pa_cons (lv 0) (pa_cons (pe_ty "bool" T.m_bool) pa_nil)))) (pe_one (pe_chainU opU_le opU_le (lv 1) (lv 0) (lv 2)))))), ?_⟩
    obtain ⟨a, b, rfl, rfl, hk, wf, k⟩ := h
    refine ⟨_, isk_int hk, ?_⟩
    cases v with
    | int n =>
      refine ⟨_, isk_bool hk, ?_⟩
      refine iteC (fun h1 => ?_) (fun h1 => ?_)
      · refine bQ.same wf (Same.refl _) ?_
        have e : isWholeB (.int n) a b = decide (n ≤ b) := by
          show (decide (a ≤ n) && decide (n ≤ b)) = _
          rw [decide_eq_true h1, Bool.true_and]
        rw [← e]
        exact k
      · refine bQ.same wf (Same.refl _) ?_
        have e : isWholeB (.int n) a b = false := by
          show (decide (a ≤ n) && decide (n ≤ b)) = _
          rw [decide_eq_false h1, Bool.false_and]
        rw [← e]
        exact k
    | bl c =>
      refine ⟨_, isk_bool hk, ?_⟩
      exact bQ.same wf (Same.refl _) k
    | str z => exact bQ.same wf (Same.refl _) k
    | non => exact bQ.same wf (Same.refl _) k
    | ref p => exact bQ.same wf (Same.refl _) k
    | byt b => exact hk.elim
    | flt b => exact hk.elim
    | ty b => exact hk.elim

abbrev s_is_moment : Stmt := topS 17
abbrev N_is_moment : List Str := ["thing"]
theorem sc_is_moment : FnScope N_is_moment ["thing"] (defScope s_is_moment) := ⟨rfl, rfl, rfl, by decide +kernel, rfl, by decide +kernel, by decide +kernel⟩
def sp_is_moment (K : PySem.W.Frag) (c : Ad) : Sp := fun vs H Q E => arg1 (fun v => Kn K H v ∧ Wf H ∧ Q (.bl (isWholeB v 0 1000000000000)) H) vs
theorem ok_is_moment {P : Program} {w : World} {K : PySem.W.Frag} {mg : Str → Option Value} {base : Heap} {c : Ad} (T : Txt K mg c) : Ok P w K mg base 2 "is_moment" ["thing"] (sp_is_moment K c) := by
  refine okF T.f_is_moment sc_is_moment (fun vs H Q E h => ?_) (fun f cdv A outer sh H vs Q E hr h => ?_)
  · obtain ⟨v, rfl, h⟩ := arg1.ex h
    rfl
  · obtain ⟨v, rfl, h⟩ := arg1.ex h
    have tk : Takes (cxOf (L2.CX P w) P w K mg base N_is_moment "is_moment" (defScope s_is_moment) f cdv A outer sh H (bE H E)) (fun cls d _ H' => bE H E cls d H') := takes_of rfl rfl rfl rfl
    refine ⟨_, pss_one (ps_ret (pe_f (ok_is_whole (K := K) T) hr passL (pa_cons (lv 0) (pa_cons pe_int (pa_cons (pe_g T.g_MOST_MOMENT) pa_nil))))), ?_⟩
    obtain ⟨hk, wf, k⟩ := h
    exact ⟨0, 1000000000000, rfl, rfl, hk, wf, bQ.same wf (Same.refl _) k⟩

def ScrL (K : PySem.W.Frag) (H : Hp) (v : V) (ns : List Int) : Prop := ∃ a, v = .ref a ∧ SqL K H a (ns.map V.int) ∧ ns.length ≤ 63
theorem mixed_b {r m : Int} (h : 0 < m) : 0 ≤ r % m ∧ r % m < m := ⟨Int.emod_nonneg _ (by omega), Int.emod_lt_of_pos _ h⟩
theorem mul_b {x y : Int} {a b : Nat} (hx0 : 0 ≤ x) (hx : x < 2 ^ a) (hy0 : 0 ≤ y) (hy : y < 2 ^ b) (h0 : 0 < a) (h1 : 0 < b) (h : a + b ≤ 1000000) : CMulW x y := by
  have e1 : (2 : Int) ^ a = ((2 ^ a : Nat) : Int) := by simp
  have e2 : (2 : Int) ^ b = ((2 ^ b : Nat) : Int) := by simp
  refine wide_mul (a := a) (b := b) ?_ ?_ h0 h1 h
  · omega
  · omega
theorem div_b {x j : Int} {b : Nat} (h : 0 < j) (hb : j.natAbs < 2 ^ b) (h0 : 0 < b) (h9 : b ≤ 9000) : CDivW x j := wide_div h hb h0 h9
/-- small enough for a digit -/
def Bas (b : Int) : Prop := 0 < b ∧ b.natAbs.log2 < 9000
theorem bas_lt {b : Int} (h : 0 < b) (h2 : b < 2 ^ 200) : Bas b := ⟨h, by
  have e : b.natAbs < 2 ^ 200 := by omega
  exact Nat.lt_trans (PySem.Flt.log2_lt_of (by decide) e) (by decide)⟩
theorem log_le {x y : Nat} (h : x ≤ y) : x.log2 ≤ y.log2 := by
  by_cases hx : x = 0
  · subst hx; simp
  · exact (Nat.le_log2 (by omega)).2 (Nat.le_trans (Nat.log2_self_le hx) h)

abbrev s__law_cell_at : Stmt := topS 26
abbrev N__law_cell_at : List Str := ["_law_script", "_law_k"]
theorem sc__law_cell_at : FnScope N__law_cell_at ["_law_script", "_law_k"] (defScope s__law_cell_at) := ⟨rfl, rfl, rfl, by decide +kernel, rfl, by decide +kernel, by decide +kernel⟩
def sp__law_cell_at (K : PySem.W.Frag) (c : Ad) : Sp := fun vs H Q E => arg2 (fun s k => ∃ ns j, ScrL K H s ns ∧ k = .int j ∧ 0 ≤ j ∧ Wf H ∧ ∀ n, Q (.int n) H) vs
theorem ok__law_cell_at {P : Program} {w : World} {K : PySem.W.Frag} {mg : Str → Option Value} {base : Heap} {c : Ad} (T : Txt K mg c) : Ok P w K mg base 1 "_law_cell_at" ["_law_script", "_law_k"] (sp__law_cell_at K c) := by
  refine okF T.f__law_cell_at sc__law_cell_at (fun vs H Q E h => ?_) (fun f cdv A outer sh H vs Q E hr h => ?_)
  · obtain ⟨s, k, rfl, h⟩ := arg2.ex h
    rfl
  · obtain ⟨s, k, rfl, h⟩ := arg2.ex h
    have tk : Takes (cxOf (L2.CX P w) P w K mg base N__law_cell_at "_law_cell_at" (defScope s__law_cell_at) f cdv A outer sh H (bE H E)) (fun cls d _ H' => bE H E cls d H') := takes_of rfl rfl rfl rfl
    refine ⟨_, pss_cons (ps_if (pt_cmpU opU_lt (lv 1) (pe_callB (callU_len (K := K)) (by rfl) T.m_len (by decide +kernel) (pa_cons (lv 0) pa_nil)) (nomark _))
      (pss_one (ps_ret (pe_ix (ixU (K := K)) (lv 0) (lv 1) (fun _ _ => rfl)))) pss_nil)
      (pss_one (ps_ret pe_int)), ?_⟩
    obtain ⟨ns, j, ⟨a, rfl, hS, hl⟩, rfl, hj, wf, k⟩ := h
    refine .inl ⟨_, .inl hS, ?_⟩
    refine iteC (fun h1 => ?_) (fun h1 => ?_)
    · obtain ⟨v, hv, hm⟩ := at_lt hj h1
      obtain ⟨n, _, rfl⟩ := List.mem_map.mp hm
      exact ⟨_, _, .inl hS, hv, bQ.same wf (Same.refl _) (k n)⟩
    · exact bQ.same wf (Same.refl _) (k 0)

abbrev s__law_state : Stmt := topS 27
abbrev N__law_state : List Str := ["_law_cell", "_law_k"]
theorem sc__law_state : FnScope N__law_state ["_law_cell", "_law_k"] (defScope s__law_state) := ⟨rfl, rfl, rfl, by decide +kernel, rfl, by decide +kernel, by decide +kernel⟩
def sp__law_state (K : PySem.W.Frag) (c : Ad) : Sp := fun vs H Q E => arg2 (fun c k => ∃ n j, c = .int n ∧ k = .int j ∧ 0 ≤ j ∧ j < 100 ∧ Wf H ∧ ∀ p q a, H a = none → 0 ≤ p → Q (.ref a) (upd H a (stL p q))) vs
theorem ok__law_state {P : Program} {w : World} {K : PySem.W.Frag} {mg : Str → Option Value} {base : Heap} {c : Ad} (T : Txt K mg c) : Ok P w K mg base 1 "_law_state" ["_law_cell", "_law_k"] (sp__law_state K c) := by
  refine okF T.f__law_state sc__law_state (fun vs H Q E h => ?_) (fun f cdv A outer sh H vs Q E hr h => ?_)
  · obtain ⟨c, k, rfl, h⟩ := arg2.ex h
    rfl
  · obtain ⟨c, k, rfl, h⟩ := arg2.ex h
    have tk : Takes (cxOf (L2.CX P w) P w K mg base N__law_state "_law_state" (defScope s__law_state) f cdv A outer sh H (bE H E)) (fun cls d _ H' => bE H E cls d H') := takes_of rfl rfl rfl rfl
    refine ⟨_, pss_one (ps_ret (pe_lst (pa_cons (pe_op opU_mul (lv 0) (pe_callTy callU_int (by rfl) T.m_int (by decide +kernel) (pa_cons (pe_cmpR opU_ge (lv 0) (pe_op opU_pow pe_int pe_int) (nomark _)) pa_nil))) (pa_cons (pe_op (opU_add (K := K)) (pe_op opU_mod (lv 0) pe_int) (pe_op opU_mul pe_int (lv 1))) pa_nil)))), ?_⟩
    obtain ⟨n, j, rfl, rfl, h0, h1, wf, k⟩ := h
    refine ⟨⟨by decide, by decide, by decide⟩, ?_⟩
    refine ⟨.inl (.inr (by split <;> exact ⟨by decide, by decide⟩)), ?_⟩
    refine ⟨by decide, ?_⟩
    refine ⟨.inl (.inl ⟨by decide, by decide⟩), ?_⟩
    refine ⟨line_of (show 2 ≤ 16777216 by decide), fun a na => bQ.mk (wf.new trivial na) (k _ _ a na ?_)⟩
    split
    · rename_i e
      have e2 := of_decide_eq_true e
      have e3 : (10 : Int) ^ Int.toNat 18 = 1000000000000000000 := by decide
      omega
    · omega

abbrev s__law_mixed : Stmt := topS 28
abbrev N__law_mixed : List Str := ["_law_number"]
theorem sc__law_mixed : FnScope N__law_mixed ["_law_number"] (defScope s__law_mixed) := ⟨rfl, rfl, rfl, by decide +kernel, rfl, by decide +kernel, by decide +kernel⟩
def sp__law_mixed (K : PySem.W.Frag) (c : Ad) : Sp := fun vs H Q E => arg1 (fun x => ∃ n, x = .int n ∧ Wf H ∧ ∀ r, 0 ≤ r → Q (.int r) H) vs
theorem ok__law_mixed {P : Program} {w : World} {K : PySem.W.Frag} {mg : Str → Option Value} {base : Heap} {c : Ad} (T : Txt K mg c) : Ok P w K mg base 1 "_law_mixed" ["_law_number"] (sp__law_mixed K c) := by
  refine okF T.f__law_mixed sc__law_mixed (fun vs H Q E h => ?_) (fun f cdv A outer sh H vs Q E hr h => ?_)
  · obtain ⟨x, rfl, h⟩ := arg1.ex h
    rfl
  · obtain ⟨x, rfl, h⟩ := arg1.ex h
    have tk : Takes (cxOf (L2.CX P w) P w K mg base N__law_mixed "_law_mixed" (defScope s__law_mixed) f cdv A outer sh H (bE H E)) (fun cls d _ H' => bE H E cls d H') := takes_of rfl rfl rfl rfl
    refine ⟨_, pss_cons (ps_set (i := 0) sc__law_mixed.nd rfl (.inl rfl) (pe_op opU_mod (pe_op opU_mul (pe_op (opU_add (K := K)) (pe_op opU_mod (lv 0) pe_int) pe_int) pe_int) pe_int))
      (pss_cons (ps_set (i := 0) sc__law_mixed.nd rfl (.inl rfl) (pe_op opU_mod (pe_op opU_mul (lv 0) (pe_op (opU_add (K := K)) (pe_op opU_div (lv 0) pe_int) pe_int)) pe_int))
      (pss_one (ps_ret (pe_op opU_mod (pe_op opU_mul (pe_op (opU_add (K := K)) (lv 0) pe_int) (pe_op (opU_add (K := K)) (pe_op opU_div (lv 0) pe_int) pe_int)) pe_int)))), ?_⟩
    obtain ⟨n, rfl, wf, k⟩ := h
    have b1 := @mixed_b n 2147483647 (by decide)
    refine ⟨by decide, ?_⟩
    refine ⟨.inr <| mul_b (a := 32) (b := 16) (by omega) (by omega) (by decide) (by decide) (by decide) (by decide) (by decide), ?_⟩
    refine ⟨by decide, ?_⟩
    generalize hx : (n % 2147483647 + 1) * 48271 % 2147483647 = x
    have b2 : 0 ≤ x ∧ x < 2147483647 := by rw [← hx]; exact mixed_b (by decide)
    refine ⟨div_b (b := 10) (by decide) (by decide) (by decide) (by decide), ?_⟩
    refine ⟨.inr <| mul_b (a := 31) (b := 32) (by omega) (by omega) (by omega) (by omega) (by decide) (by decide) (by decide), ?_⟩
    refine ⟨by decide, ?_⟩
    generalize hy : x * (x / 1009 + 69621) % 2147483647 = y
    have b3 : 0 ≤ y ∧ y < 2147483647 := by rw [← hy]; exact mixed_b (by decide)
    refine ⟨div_b (b := 10) (by decide) (by decide) (by decide) (by decide), ?_⟩
    refine ⟨.inr <| mul_b (a := 32) (b := 32) (by omega) (by omega) (by omega) (by omega) (by decide) (by decide) (by decide), ?_⟩
    refine ⟨by decide, ?_⟩
    exact bQ.same wf (Same.refl _) (k _ (mixed_b (by decide)).1)

abbrev s__law_digit : Stmt := topS 29
abbrev N__law_digit : List Str := ["_law_state_here", "_law_base", "_law_found"]
theorem sc__law_digit : FnScope N__law_digit ["_law_state_here", "_law_base"] (defScope s__law_digit) := ⟨rfl, rfl, rfl, by decide +kernel, rfl, by decide +kernel, by decide +kernel⟩
def sp__law_digit (K : PySem.W.Frag) (c : Ad) : Sp := fun vs H Q E => arg2 (fun s b => ∃ a m, s = .ref a ∧ b = .int m ∧ St2 H a ∧ Bas m ∧ Wf H ∧ ∀ r p q, 0 ≤ r → r < m → 0 ≤ p → Q (.int r) (upd H a (stL p q))) vs
theorem ok__law_digit {P : Program} {w : World} {K : PySem.W.Frag} {mg : Str → Option Value} {base : Heap} {c : Ad} (T : Txt K mg c) : Ok P w K mg base 2 "_law_digit" ["_law_state_here", "_law_base"] (sp__law_digit K c) := by
  refine okF T.f__law_digit sc__law_digit (fun vs H Q E h => ?_) (fun f cdv A outer sh H vs Q E hr h => ?_)
  · obtain ⟨s, b, rfl, h⟩ := arg2.ex h
    rfl
  · obtain ⟨s, b, rfl, h⟩ := arg2.ex h
    have tk : Takes (cxOf (L2.CX P w) P w K mg base N__law_digit "_law_digit" (defScope s__law_digit) f cdv A outer sh H (bE H E)) (fun cls d _ H' => bE H E cls d H') := takes_of rfl rfl rfl rfl
    refine ⟨_, pss_cons (ps_if (pt_cmpU opU_gt (pe_ix (ixU (K := K)) (lv 0) pe_int (fun _ _ => rfl)) pe_int (nomark _))
      (pss_cons (ps_set (i := 2) sc__law_digit.nd rfl (.inl rfl) (pe_op opU_mod (pe_ix (ixU (K := K)) (lv 0) pe_int (fun _ _ => rfl)) (lv 1)))
      (pss_cons (ps_asg (pe_op opU_div (pe_ix (ixU (K := K)) (lv 0) pe_int (fun _ _ => rfl)) (lv 1)) (pg_sub (lv 0) pe_int setU))
      (pss_one (ps_ret (lv 2))))) pss_nil)
      (pss_cons (ps_asg (pe_f (ok__law_mixed (K := K) T) hr passL (pa_cons (pe_op (opU_add (K := K)) (pe_ix (ixU (K := K)) (lv 0) pe_int (fun _ _ => rfl)) pe_int) pa_nil)) (pg_sub (lv 0) pe_int setU))
      (pss_one (ps_ret (pe_op opU_mod (pe_op opU_div (pe_ix (ixU (K := K)) (lv 0) pe_int (fun _ _ => rfl)) pe_int) (lv 1))))), ?_⟩
    obtain ⟨a, m, rfl, rfl, ⟨p, q, e, hp⟩, ⟨hm, hb⟩, wf, k⟩ := h
    have s1 : ∀ {H : Hp} {p q : Int}, H a = some (stL p q) → SqL K H a [.int p, .int q] := fun h => .inl (.inl h)
    have g0 : ∀ {p q : Int}, atI [V.int p, V.int q] 0 = some (.int p) := fun {p q} => rfl
    have g1 : ∀ {p q : Int}, atI [V.int p, V.int q] 1 = some (.int q) := fun {p q} => rfl
    refine ⟨_, _, .inl (s1 e), g0, ?_⟩
    refine iteC (fun h1 => ?_) (fun h1 => ?_)
    · refine ⟨_, _, .inl (s1 e), g0, hm, ?_⟩
      refine ⟨_, _, .inl (s1 e), g0, ⟨hm, hb⟩, ?_⟩
      refine ⟨_, 0, e, rfl, ?_⟩
      exact bQ.mk (wf.at trivial e fun x z => by cases z) (k _ _ _ (mixed_b hm).1 (mixed_b hm).2 (Int.ediv_nonneg hp (by omega)))
    · refine ⟨_, _, .inl (s1 e), g1, ?_⟩
      refine ⟨_, rfl, wf, fun r hr => ?_⟩
      refine ⟨_, 1, e, rfl, ?_⟩
      have e1 : (upd H a (stL p r)) a = some (stL p r) := upd_same
      refine ⟨_, _, .inl (s1 e1), g1, div_b (b := 8) (by decide) (by decide) (by decide) (by decide), hm, ?_⟩
      exact bQ.mk (wf.at trivial e fun x z => by cases z) (k _ _ _ (mixed_b hm).1 (mixed_b hm).2 hp)

def isCountB : V → Bool | .int n => decide (0 ≤ n) | _ => false
def isWholeD : PyData → Int → Int → Bool
  | .int n, a, b => decide (a ≤ n) && decide (n ≤ b)
  | _, _, _ => false
theorem whole_dp {K : PySem.W.Frag} {H : Hp} {v : V} {d : PyData} (h : Dp K H v d) (a b : Int) : isWholeB v a b = isWholeD d a b := by cases h <;> rfl
def arePausesD : PyData → Bool
  | .tuple ds => decide ((ds.length : Int) ≤ 10) && ds.all fun d => isWholeD d 0 1000000
  | _ => false
def isOrderD : PyData → Bool
  | .str z => inV (.str z) [.str "put", .str "turns"]
  | _ => false
def isRuleD : PyData → Bool
  | .tuple [a, b, c, e, f] => isOrderD a && (isWholeD b 1 20 && isWholeD c 1 1000000) && (arePausesD e && isWholeD f 0 200)
  | _ => false
theorem all_whole {K : PySem.W.Frag} {H : Hp} : ∀ {xs : List V} {ds : List PyData}, DpAll K H xs ds → ∀ a b : Int, (xs.map fun x => isWholeB x a b) = ds.map fun d => isWholeD d a b
  | _, _, .nil, _, _ => rfl
  | _, _, .cons h r, a, b => by rw [List.map_cons, List.map_cons, whole_dp h, all_whole r]
theorem rule_len {ds : List PyData} (h : ds.length ≠ 5) : isRuleD (.tuple ds) = false := by
  match ds, h with
  | [], _ => rfl
  | [_], _ => rfl
  | [_, _], _ => rfl
  | [_, _, _], _ => rfl
  | [_, _, _, _], _ => rfl
  | [_, _, _, _, _], h => exact absurd rfl h
  | _ :: _ :: _ :: _ :: _ :: _ :: _, _ => rfl

/-- what tells a work -/
structure W5 where
  n : Str
  h : Str
  r : Int
  g : Option Str
  p : Int
def optV : Option Str → V | none => .non | some z => .str z
def optD : Option Str → PyData | none => .none | some z => .str z
def tupW (w : W5) : List V := [.str w.n, .str w.h, .int w.r, optV w.g, .int w.p]
def workD (w : W5) : PyData := .tuple [.str w.n, .str w.h, .int w.r, optD w.g, .int w.p]
def clsW (c : Ad) (w : W5) : Addr := match w.g with | none => c.Loose | some _ => c.Grouped
def fsW (w : W5) : List (Str × V) := fs_Work (.str w.n) (.str w.h) (.int w.r) (optV w.g) (.int w.p)
def WorkAt (c : Ad) (H : Hp) (x : Addr) (w : W5) : Prop := ∃ dx, H x = some (.ins (clsW c w) dx (fsW w))
theorem dp_opt {K : PySem.W.Frag} {H : Hp} : ∀ g : Option Str, Dp K H (optV g) (optD g)
  | none => .non
  | some z => .str z
theorem work_dp {K : PySem.W.Frag} {H : Hp} {p : Addr} {w : W5} (h : SqT K H p (tupW w)) : Dp K H (.ref p) (workD w) := .tup h (.cons (.str _) (.cons (.str _) (.cons (.int _) (.cons (dp_opt _) (.cons (.int _) .nil)))))
theorem work_at {K : PySem.W.Frag} {H : Hp} {v : V} {w : W5} (h : Dp K H v (workD w)) : ∃ p, v = .ref p ∧ SqT K H p (tupW w) := by
  cases h with
  | @tup p xs ds hT ha =>
    obtain ⟨x1, x2, x3, x4, x5, d1, d2, d3, d4, d5, rfl, e, g1, g2, g3, g4, g5⟩ := dpa5 ha (dpa_len ha)
    cases e
    cases g1
    cases g2
    cases g3
    cases g5
    have e4 : x4 = optV w.g := by
      cases q : w.g with
      | none =>
        rw [q] at g4
        cases g4
        rfl
      | some z =>
        rw [q] at g4
        cases g4
        rfl
    rw [e4] at hT
    exact ⟨p, rfl, hT⟩
def isNameD : PyData → Bool | .str z => isNameB (.str z) | _ => false
theorem name_dp {K : PySem.W.Frag} {H : Hp} {v : V} {d : PyData} (h : Dp K H v d) : isNameB v = isNameD d := by cases h <;> rfl
def grpD (g p : PyData) : Bool := match g with | .none => isWholeD p 0 0 | g => isNameD g && isWholeD p 0 1000000000
def isWorkD : PyData → Bool
  | .tuple [a, b, r, g, p] => isNameD a && (isNameD b && isWholeD r 0 1000000000000) && grpD g p
  | _ => false
theorem work_len {ds : List PyData} (h : ds.length ≠ 5) : isWorkD (.tuple ds) = false := by
  match ds, h with
  | [], _ => rfl
  | [_], _ => rfl
  | [_, _], _ => rfl
  | [_, _, _], _ => rfl
  | [_, _, _, _], _ => rfl
  | [_, _, _, _, _], h => exact absurd rfl h
  | _ :: _ :: _ :: _ :: _ :: _ :: _, _ => rfl
theorem name_str {d : PyData} (h : isNameD d = true) : ∃ z, d = .str z := by
  cases d with
  | str z => exact ⟨z, rfl⟩
  | _ => cases h
theorem whole_int {d : PyData} {a b : Int} (h : isWholeD d a b = true) : ∃ n, d = .int n := by
  cases d with
  | int n => exact ⟨n, rfl⟩
  | _ => cases h
theorem work_of_d {d : PyData} (h : isWorkD d = true) : ∃ w, d = workD w := by
  unfold isWorkD at h
  split at h
  · rename_i a b r g p
    rw [Bool.and_eq_true, Bool.and_eq_true, Bool.and_eq_true] at h
    obtain ⟨⟨h1, h2, h3⟩, h4⟩ := h
    obtain ⟨n, rfl⟩ := name_str h1
    obtain ⟨m, rfl⟩ := name_str h2
    obtain ⟨i, rfl⟩ := whole_int h3
    unfold grpD at h4
    split at h4
    · obtain ⟨j, rfl⟩ := whole_int h4
      exact ⟨⟨n, m, i, none, j⟩, rfl⟩
    · rw [Bool.and_eq_true] at h4
      obtain ⟨z, rfl⟩ := name_str h4.1
      obtain ⟨j, rfl⟩ := whole_int h4.2
      exact ⟨⟨n, m, i, some z, j⟩, rfl⟩
  · cases h
/-- the texts of a tuple are short -/
def SmD (d : PyData) : Prop := ∀ ds, d = .tuple ds → ∀ z, PyData.str z ∈ ds → z.length ≤ 1000000 ∧ sOk z
theorem short_at {K : PySem.W.Frag} {H : Hp} {v : V} {d : PyData} {ds : List PyData} (s : SmD (.tuple ds)) (m : d ∈ ds) (h : Dp K H v d) : Short v := fun z e => by
  subst e
  cases h
  exact s ds rfl z m
/-- what tells no work -/
def NoWk (K : PySem.W.Frag) (H : Hp) (v : V) : Prop := (∃ d, Dp K H v d ∧ SmD d ∧ isWorkD d = false) ∨ IsiV K H v "tuple" false
theorem not_b {b : Bool} (h : (!b) = true) : b = false := by simpa using h
theorem not_b' {b : Bool} (h : (!b) = false) : b = true := by simpa using h

abbrev s_is_work : Stmt := topS 23
abbrev N_is_work : List Str := ["told", "name", "house", "ready", "group", "place"]
theorem sc_is_work : FnScope N_is_work ["told"] (defScope s_is_work) := ⟨rfl, rfl, rfl, by decide +kernel, rfl, by decide +kernel, by decide +kernel⟩
def sp_is_work (K : PySem.W.Frag) (c : Ad) : Sp := fun vs H Q E => arg1 (fun v => Wf H ∧ ∃ r, ((∃ d, Dp K H v d ∧ SmD d ∧ r = isWorkD d) ∨ (IsiV K H v "tuple" false ∧ r = false)) ∧ Q (.bl r) H) vs
theorem ok_is_work {P : Program} {w : World} {K : PySem.W.Frag} {mg : Str → Option Value} {base : Heap} {c : Ad} (T : Txt K mg c) : Ok P w K mg base 3 "is_work" ["told"] (sp_is_work K c) := by
  refine okF T.f_is_work sc_is_work (fun vs H Q E h => ?_) (fun f cdv A outer sh H vs Q E hr h => ?_)
  · obtain ⟨v, rfl, h⟩ := arg1.ex h
    rfl
  · obtain ⟨v, rfl, h⟩ := arg1.ex h
    have tk : Takes (cxOf (L2.CX P w) P w K mg base N_is_work "is_work" (defScope s_is_work) f cdv A outer sh H (bE H E)) (fun cls d _ H' => bE H E cls d H') := takes_of rfl rfl rfl rfl
    refine ⟨_, pss_cons (ps_if (PW.pt (pw_or (pt_not (pt_truthU (K := K) (pe_callB (callU_isi (K := K)) (by rfl) T.m_isinstance (by decide +kernel) (pa_cons (lv 0) (pa_cons (pe_ty "tuple" T.m_tuple) pa_nil))) (by intro _; rfl))) (pw_or1 (pt_cmpU (opU_ne (K := K) hr) (pe_callB (callU_len (K := K)) (by rfl) T.m_len (by decide +kernel) (pa_cons (lv 0) pa_nil)) pe_int (nomark _)))))
      (pss_one (ps_ret pe_bl)) pss_nil)
      (pss_cons (ps_asg (lv 0) (pg_tupK (K := K) (n := 5) rfl (pgs_cons (pg_name (i := 1) sc_is_work.nd rfl (.inl rfl)) (pgs_cons (pg_name (i := 2) sc_is_work.nd rfl (.inl rfl)) (pgs_cons (pg_name (i := 3) sc_is_work.nd rfl (.inl rfl)) (pgs_cons (pg_name (i := 4) sc_is_work.nd rfl (.inl rfl)) (pgs_cons (pg_name (i := 5) sc_is_work.nd rfl (.inl rfl)) pgs_nil)))))))
      (pss_cons (ps_if (PW.pt (pw_or (pt_not (pt_truthU (K := K) (pe_f (ok_is_name (K := K) T) (hr.mono (by decide)) passL (pa_cons (lv 1) pa_nil)) (by intro _; rfl))) (pw_or (pt_not (pt_truthU (K := K) (pe_f (ok_is_name (K := K) T) (hr.mono (by decide)) passL (pa_cons (lv 2) pa_nil)) (by intro _; rfl))) (pw_or1 (pt_not (pt_truthU (K := K) (pe_f (ok_is_moment (K := K) T) hr passL (pa_cons (lv 3) pa_nil)) (by intro _; rfl)))))))
      (pss_one (ps_ret pe_bl)) pss_nil)
      (pss_cons (ps_if (pt_cmpU opU_is (lv 4) pe_non (nomark _))
      (pss_one (ps_ret (pe_f (ok_is_whole (K := K) T) (hr.mono (by decide)) passL (pa_cons (lv 5) (pa_cons pe_int (pa_cons pe_int pa_nil)))))) pss_nil)
      (pss_one (ps_ret (pe_andU (K := K) (pe_f (ok_is_name (K := K) T) (hr.mono (by decide)) passL (pa_cons (lv 4) pa_nil)) (pe_one (pe_f (ok_is_whole (K := K) T) (hr.mono (by decide)) passL (pa_cons (lv 5) (pa_cons pe_int (pa_cons (pe_g T.g_MOST_PLACE) pa_nil))))))))))), ?_⟩
    obtain ⟨wf, r, h, k⟩ := h
    rcases h with ⟨d, hd, sm, rfl⟩ | ⟨h, rfl⟩
    · refine ⟨_, isk_tup hd, ?_⟩
      cases hd with
      | @tup p xs ds hT ha =>
        refine .inl ⟨xs, .inr hT, ?_⟩
        have hl := dpa_len ha
        refine iteB (c := !decide (V.int xs.length = V.int 5)) (fun h1 => ?_) (fun h1 => ?_)
        · refine bQ.same wf (Same.refl _) ?_
          have e : isWorkD (.tuple ds) = false := work_len fun e => nd_t h1 (by rw [hl, e]; rfl)
          rw [← e]
          exact k
        · have h5 : xs.length = 5 := by
            have := V.int.inj (nd_f h1)
            omega
          obtain ⟨x1, x2, x3, x4, x5, d1, d2, d3, d4, d5, rfl, rfl, g1, g2, g3, g4, g5⟩ := dpa5 ha h5
          refine ⟨p, _, rfl, hT, rfl, _, _, rfl, _, _, rfl, _, _, rfl, _, _, rfl, _, _, rfl, rfl, ?_⟩
          have e : isWorkD (.tuple [d1, d2, d3, d4, d5]) = (isNameD d1 && (isNameD d2 && isWholeD d3 0 1000000000000) && grpD d4 d5) := rfl
          rw [e] at k
          refine ⟨kn_dp g1, short_at sm (by simp) g1, wf, ?_⟩
          rw [name_dp g1]
          refine iteB (c := !isNameD d1) (fun h => ?_) (fun h => ?_)
          · rw [not_b h, Bool.false_and, Bool.false_and] at k
            exact bQ.same wf (Same.refl _) k
          · rw [not_b' h, Bool.true_and] at k
            refine ⟨kn_dp g2, short_at sm (by simp) g2, wf, ?_⟩
            rw [name_dp g2]
            refine iteB (c := !isNameD d2) (fun h => ?_) (fun h => ?_)
            · rw [not_b h, Bool.false_and, Bool.false_and] at k
              exact bQ.same wf (Same.refl _) k
            · rw [not_b' h, Bool.true_and] at k
              refine ⟨kn_dp g3, wf, ?_⟩
              rw [whole_dp g3]
              refine iteB (c := !isWholeD d3 0 1000000000000) (fun h => ?_) (fun h => ?_)
              · rw [not_b h, Bool.false_and] at k
                exact bQ.same wf (Same.refl _) k
              · rw [not_b' h, Bool.true_and] at k
                cases g4 with
                | non =>
                  refine ⟨0, 0, rfl, rfl, kn_dp g5, wf, bQ.same wf (Same.refl _) ?_⟩
                  rw [whole_dp g5]
                  exact k
                | str z =>
                  refine ⟨trivial, short_at (K := K) (H := H) sm (by simp) (.str z), wf, ?_⟩
                  refine iteB (c := isNameB (.str z)) (fun h => ?_) (fun h => ?_)
                  · refine ⟨0, 1000000000, rfl, rfl, kn_dp g5, wf, bQ.same wf (Same.refl _) ?_⟩
                    have e2 : grpD (.str z) d5 = (isNameB (.str z) && isWholeD d5 0 1000000000) := rfl
                    rw [e2, h, Bool.true_and] at k
                    rw [whole_dp g5]
                    exact k
                  · refine bQ.same wf (Same.refl _) ?_
                    have e2 : grpD (.str z) d5 = (isNameB (.str z) && isWholeD d5 0 1000000000) := rfl
                    rw [e2, h, Bool.false_and] at k
                    rw [h]
                    exact k
                | bl b => exact ⟨trivial, short_at (K := K) (H := H) sm (by simp) (.bl b), wf, bQ.same wf (Same.refl _) k⟩
                | int b => exact ⟨trivial, short_at (K := K) (H := H) sm (by simp) (.int b), wf, bQ.same wf (Same.refl _) k⟩
                | lst q1 q2 => exact ⟨kn_dp (.lst q1 q2), short_at (K := K) (H := H) sm (by simp) (.lst q1 q2), wf, bQ.same wf (Same.refl _) k⟩
                | tup q1 q2 => exact ⟨kn_dp (.tup q1 q2), short_at (K := K) (H := H) sm (by simp) (.tup q1 q2), wf, bQ.same wf (Same.refl _) k⟩
      | non => exact bQ.same wf (Same.refl _) k
      | bl _ => exact bQ.same wf (Same.refl _) k
      | int _ => exact bQ.same wf (Same.refl _) k
      | str _ => exact bQ.same wf (Same.refl _) k
      | lst _ _ => exact bQ.same wf (Same.refl _) k
    · exact ⟨_, h, bQ.same wf (Same.refl _) k⟩

abbrev s_Work___init__ : Stmt := inClass (topS 20) 0
abbrev N_Work___init__ : List Str := ["self", "name", "house", "ready", "group", "place"]
theorem sc_Work___init__ : FnScope N_Work___init__ ["self", "name", "house", "ready", "group", "place"] (defScope s_Work___init__) := ⟨rfl, rfl, rfl, by decide +kernel, rfl, by decide +kernel, by decide +kernel⟩
def cr_Work___init__ (c : Ad) (C : Addr) : Prop := C = c.Loose ∨ C = c.Grouped
def sp_Work___init__ (K : PySem.W.Frag) (c : Ad) (C : Addr) : Sp := fun vs H Q E => arg6 (fun self w1 w2 w3 w4 w5 => ∃ x dx, self = .ref x ∧ H x = some (.ins C dx []) ∧ Wf H ∧ Q .non (upd H x (.ins C dx (fs_Work w1 w2 w3 w4 w5)))) vs
theorem ok_Work___init__ {P : Program} {w : World} {K : PySem.W.Frag} {mg : Str → Option Value} {base : Heap} {c : Ad} (T : Txt K mg c) {x : Str} {C : Addr} (hx : x = "Loose" ∧ C = c.Loose ∨ x = "Grouped" ∧ C = c.Grouped) : OkI P w K mg base 1 x C ["self", "name", "house", "ready", "group", "place"] (sp_Work___init__ K c C) := by
  have F : MkAt K mg x C "Work.__init__" s_Work___init__ ["self", "name", "house", "ready", "group", "place"] ∧ cr_Work___init__ c C := by
    rcases hx with ⟨rfl, rfl⟩ | ⟨rfl, rfl⟩
    · exact ⟨T.i_Loose, (.inl rfl)⟩
    · exact ⟨T.i_Grouped, (.inr rfl)⟩
  obtain ⟨F, hC⟩ := F
  have cl : Cls K C := by
    rcases hC with rfl | rfl
    · exact T.o_Loose.cl
    · exact T.o_Grouped.cl
  have n_name : NoAttr K C "name" := by
    rcases hC with rfl | rfl
    · exact T.n_Loose_name
    · exact T.n_Grouped_name
  have n_house : NoAttr K C "house" := by
    rcases hC with rfl | rfl
    · exact T.n_Loose_house
    · exact T.n_Grouped_house
  have n_ready : NoAttr K C "ready" := by
    rcases hC with rfl | rfl
    · exact T.n_Loose_ready
    · exact T.n_Grouped_ready
  have n_group : NoAttr K C "group" := by
    rcases hC with rfl | rfl
    · exact T.n_Loose_group
    · exact T.n_Grouped_group
  have n_place : NoAttr K C "place" := by
    rcases hC with rfl | rfl
    · exact T.n_Loose_place
    · exact T.n_Grouped_place
  refine okI F sc_Work___init__ (fun vs H Q E h => ?_) (fun f cdv A outer sh H vs Q E hr h => ?_)
  · obtain ⟨self, w1, w2, w3, w4, w5, rfl, h⟩ := arg6.ex h
    rfl
  · obtain ⟨self, w1, w2, w3, w4, w5, rfl, h⟩ := arg6.ex h
    have tk : Takes (cxOf (L2.CX P w) P w K mg base N_Work___init__ "Work.__init__" (defScope s_Work___init__) f cdv A outer sh H (bE H E)) (fun cls d _ H' => bE H E cls d H') := takes_of rfl rfl rfl rfl
    refine ⟨_, pss_cons (ps_fld (lv 0) (lv 1) rfl)
      (pss_cons (ps_fld (lv 0) (lv 2) rfl)
      (pss_cons (ps_fld (lv 0) (lv 3) rfl)
      (pss_cons (ps_fld (lv 0) (lv 4) rfl)
      (pss_one (ps_fld (lv 0) (lv 5) rfl))))), ?_⟩
    obtain ⟨x, dx, rfl, hx, wf, k⟩ := h
    refine ⟨x, C, dx, [], rfl, hx, cl, n_name, (by show 0 < 1000; decide), ?_⟩
    rw [show putF ("name" : Str) w1 [] = [(("name" : Str), w1)] from by kernel_rfl]
    refine ⟨x, C, dx, [(("name" : Str), w1)], rfl, upd_same, cl, n_house, (by show 1 < 1000; decide), ?_⟩
    rw [upd_upd]
    rw [show putF ("house" : Str) w2 [(("name" : Str), w1)] = [(("name" : Str), w1), (("house" : Str), w2)] from by kernel_rfl]
    refine ⟨x, C, dx, [(("name" : Str), w1), (("house" : Str), w2)], rfl, upd_same, cl, n_ready, (by show 2 < 1000; decide), ?_⟩
    rw [upd_upd]
    rw [show putF ("ready" : Str) w3 [(("name" : Str), w1), (("house" : Str), w2)] = [(("name" : Str), w1), (("house" : Str), w2), (("ready" : Str), w3)] from by kernel_rfl]
    refine ⟨x, C, dx, [(("name" : Str), w1), (("house" : Str), w2), (("ready" : Str), w3)], rfl, upd_same, cl, n_group, (by show 3 < 1000; decide), ?_⟩
    rw [upd_upd]
    rw [show putF ("group" : Str) w4 [(("name" : Str), w1), (("house" : Str), w2), (("ready" : Str), w3)] = [(("name" : Str), w1), (("house" : Str), w2), (("ready" : Str), w3), (("group" : Str), w4)] from by kernel_rfl]
    refine ⟨x, C, dx, [(("name" : Str), w1), (("house" : Str), w2), (("ready" : Str), w3), (("group" : Str), w4)], rfl, upd_same, cl, n_place, (by show 4 < 1000; decide), ?_⟩
    rw [upd_upd]
    rw [show putF ("place" : Str) w5 [(("name" : Str), w1), (("house" : Str), w2), (("ready" : Str), w3), (("group" : Str), w4)] = [(("name" : Str), w1), (("house" : Str), w2), (("ready" : Str), w3), (("group" : Str), w4), (("place" : Str), w5)] from by kernel_rfl]
    exact bQ.mk (wf.ins hx) k

abbrev s_work_of : Stmt := topS 24
abbrev N_work_of : List Str := ["told", "name", "house", "ready", "group", "place"]
theorem sc_work_of : FnScope N_work_of ["told"] (defScope s_work_of) := ⟨rfl, rfl, rfl, by decide +kernel, rfl, by decide +kernel, by decide +kernel⟩
def sp_work_of (K : PySem.W.Frag) (c : Ad) : Sp := fun vs H Q E => arg1 (fun v => Wf H ∧ ((∃ w, Dp K H v (workD w) ∧ SmD (workD w) ∧ isWorkD (workD w) = true ∧ ∀ x H', H x = none → Same H H' → Wf H' → WorkAt c H' x w → Q (.ref x) H') ∨ (NoWk K H v ∧ E (.ref c.NoWork) none H))) vs
theorem ok_work_of {P : Program} {w : World} {K : PySem.W.Frag} {mg : Str → Option Value} {base : Heap} {c : Ad} (T : Txt K mg c) : Ok P w K mg base 4 "work_of" ["told"] (sp_work_of K c) := by
  refine okF T.f_work_of sc_work_of (fun vs H Q E h => ?_) (fun f cdv A outer sh H vs Q E hr h => ?_)
  · obtain ⟨v, rfl, h⟩ := arg1.ex h
    rfl
  · obtain ⟨v, rfl, h⟩ := arg1.ex h
    have tk : Takes (cxOf (L2.CX P w) P w K mg base N_work_of "work_of" (defScope s_work_of) f cdv A outer sh H (bE H E)) (fun cls d _ H' => bE H E cls d H') := takes_of rfl rfl rfl rfl
    refine ⟨_, pss_cons (ps_if (pt_not (pt_truthU (K := K) (pe_f (ok_is_work (K := K) T) hr passL (pa_cons (lv 0) pa_nil)) (by intro _; rfl)))
      (pss_one (ps_rai T.x_NoWork tk)) pss_nil)
      (pss_cons (ps_asg (lv 0) (pg_tupK (K := K) (n := 5) rfl (pgs_cons (pg_name (i := 1) sc_work_of.nd rfl (.inl rfl)) (pgs_cons (pg_name (i := 2) sc_work_of.nd rfl (.inl rfl)) (pgs_cons (pg_name (i := 3) sc_work_of.nd rfl (.inl rfl)) (pgs_cons (pg_name (i := 4) sc_work_of.nd rfl (.inl rfl)) (pgs_cons (pg_name (i := 5) sc_work_of.nd rfl (.inl rfl)) pgs_nil)))))))
      (pss_cons (ps_if (pt_cmpU opU_is (lv 4) pe_non (nomark _))
      (pss_one (ps_ret (pe_mkS (ok_Work___init__ (K := K) T (x := "Loose") (.inl ⟨rfl, rfl⟩)) (hr.mono (by decide)) tk (pa_cons (lv 1) (pa_cons (lv 2) (pa_cons (lv 3) (pa_cons (lv 4) (pa_cons (lv 5) pa_nil)))))))) pss_nil)
      (pss_one (ps_ret (pe_mkS (ok_Work___init__ (K := K) T (x := "Grouped") (.inr ⟨rfl, rfl⟩)) (hr.mono (by decide)) tk (pa_cons (lv 1) (pa_cons (lv 2) (pa_cons (lv 3) (pa_cons (lv 4) (pa_cons (lv 5) pa_nil)))))))))), ?_⟩
    obtain ⟨wf, h⟩ := h
    rcases h with ⟨w, hd, sm, hw, k⟩ | ⟨h, k⟩
    · refine ⟨wf, _, .inl ⟨_, hd, sm, rfl⟩, ?_⟩
      rw [hw]
      obtain ⟨p, rfl, hT⟩ := work_at hd
      refine ⟨p, _, rfl, hT, rfl, _, _, rfl, _, _, rfl, _, _, rfl, _, _, rfl, _, _, rfl, rfl, ?_⟩
      have mk : ∀ (C x dx : Addr) (u : V), C = clsW c w → u = optV w.g → H x = none → H dx = none → dx ≠ x → bQ H Q (.ref x) (upd (upd (upd H dx (.own x)) x (.ins C dx [])) x (.ins C dx (fs_Work (.str w.n) (.str w.h) (.int w.r) u (.int w.p)))) := fun C x dx u e1 e2 nx nd ne => by
        subst e1
        subst e2
        rw [upd_upd]
        have w2 : Wf (upd (upd H dx (.own x)) x (.ins (clsW c w) dx (fsW w))) := wf.made nx nd ne
        exact bQ.mk w2 (k x _ nx (fun b o e => by rw [upd_ne (ne_of_none e nx), upd_ne (ne_of_none e nd)]; exact e) w2 ⟨dx, upd_same⟩)
      cases hg : w.g with
      | none =>
        intro x dx nx nd ne
        refine ⟨x, dx, rfl, upd_same, wf.made nx nd ne, rfl, ?_⟩
        exact mk c.Loose x dx .non (by unfold clsW; rw [hg]) (by rw [hg] <;> rfl) nx nd ne
      | some z =>
        intro x dx nx nd ne
        refine ⟨x, dx, rfl, upd_same, wf.made nx nd ne, rfl, ?_⟩
        exact mk c.Grouped x dx (.str z) (by unfold clsW; rw [hg]) (by rw [hg] <;> rfl) nx nd ne
    · refine ⟨wf, false, ?_, ?_⟩
      · rcases h with ⟨d, h1, h2, h3⟩ | h
        · exact .inl ⟨d, h1, h2, h3.symm⟩
        · exact .inr ⟨h, rfl⟩
      · exact bE.same wf (Same.refl _) k

abbrev s_Work_told : Stmt := inClass (topS 20) 1
abbrev N_Work_told : List Str := ["self"]
theorem sc_Work_told : FnScope N_Work_told ["self"] (defScope s_Work_told) := ⟨rfl, rfl, rfl, by decide +kernel, rfl, by decide +kernel, by decide +kernel⟩
def cr_Work_told (c : Ad) (C : Addr) : Prop := C = c.Loose ∨ C = c.Grouped
def sp_Work_told (K : PySem.W.Frag) (c : Ad) (C : Addr) : Sp := fun vs H Q E => arg1 (fun v => ∃ x w dx, v = .ref x ∧ H x = some (.ins C dx (fsW w)) ∧ Wf H ∧ ∀ p, H p = none → Q (.ref p) (upd H p (.tup (tupW w)))) vs
theorem ok_Work_told {P : Program} {w : World} {K : PySem.W.Frag} {mg : Str → Option Value} {base : Heap} {c : Ad} (T : Txt K mg c) {C : Addr} (hC : cr_Work_told c C) : OkM P w K mg base 1 C "told" ["self"] (sp_Work_told K c C) := by
  have F : MtAt K C "told" "Work.told" s_Work_told ["self"] := by
    rcases hC with rfl | rfl
    · exact T.m_Loose_told
    · exact T.m_Grouped_told
  have cl : Cls K C := by
    rcases hC with rfl | rfl
    · exact T.o_Loose.cl
    · exact T.o_Grouped.cl
  have n_name : NoAttr K C "name" := by
    rcases hC with rfl | rfl
    · exact T.n_Loose_name
    · exact T.n_Grouped_name
  have n_house : NoAttr K C "house" := by
    rcases hC with rfl | rfl
    · exact T.n_Loose_house
    · exact T.n_Grouped_house
  have n_ready : NoAttr K C "ready" := by
    rcases hC with rfl | rfl
    · exact T.n_Loose_ready
    · exact T.n_Grouped_ready
  have n_group : NoAttr K C "group" := by
    rcases hC with rfl | rfl
    · exact T.n_Loose_group
    · exact T.n_Grouped_group
  have n_place : NoAttr K C "place" := by
    rcases hC with rfl | rfl
    · exact T.n_Loose_place
    · exact T.n_Grouped_place
  refine okM F sc_Work_told (fun vs H Q E h => ?_) (fun f cdv A outer sh H vs Q E hr h => ?_)
  · obtain ⟨v, rfl, h⟩ := arg1.ex h
    rfl
  · obtain ⟨v, rfl, h⟩ := arg1.ex h
    have tk : Takes (cxOf (L2.CX P w) P w K mg base N_Work_told "Work.told" (defScope s_Work_told) f cdv A outer sh H (bE H E)) (fun cls d _ H' => bE H E cls d H') := takes_of rfl rfl rfl rfl
    refine ⟨_, pss_one (ps_ret (pe_tup (pa_cons (pe_fldK (K := K) (lv 0) rfl) (pa_cons (pe_fldK (K := K) (lv 0) rfl) (pa_cons (pe_fldK (K := K) (lv 0) rfl) (pa_cons (pe_fldK (K := K) (lv 0) rfl) (pa_cons (pe_fldK (K := K) (lv 0) rfl) pa_nil))))))), ?_⟩
    obtain ⟨x, w, dx, rfl, hx, wf, k⟩ := h
    refine ⟨x, C, dx, _, _, rfl, hx, cl, n_name, rfl, ?_⟩
    refine ⟨x, C, dx, _, _, rfl, hx, cl, n_house, rfl, ?_⟩
    refine ⟨x, C, dx, _, _, rfl, hx, cl, n_ready, rfl, ?_⟩
    refine ⟨x, C, dx, _, _, rfl, hx, cl, n_group, rfl, ?_⟩
    refine ⟨x, C, dx, _, _, rfl, hx, cl, n_place, rfl, ?_⟩
    refine ⟨line_of (show 5 ≤ 16777216 by decide), fun p np => ?_⟩
    exact bQ.mk (wf.new trivial np) (k p np)
theorem okm_Loose_told {P : Program} {w : World} {K : PySem.W.Frag} {mg : Str → Option Value} {base : Heap} {c : Ad} (T : Txt K mg c) : ∀ C, cs_Loose c C → OkM P w K mg base 1 C "told" ["self"] (sp_Work_told K c C) := fun C h => ok_Work_told T (by
  have e : C = c.Loose := h
  exact (.inl e))
theorem okm_Grouped_told {P : Program} {w : World} {K : PySem.W.Frag} {mg : Str → Option Value} {base : Heap} {c : Ad} (T : Txt K mg c) : ∀ C, cs_Grouped c C → OkM P w K mg base 1 C "told" ["self"] (sp_Work_told K c C) := fun C h => ok_Work_told T (by
  have e : C = c.Grouped := h
  exact (.inr e))

theorem lets_ok : ∀ c ∈ lets, c < 0x110000 := by decide +kernel
/-- a name -/
def NameS (z : Str) : Prop := isNameB (.str z) = true ∧ sOk z
theorem NameS.len {z : Str} (h : NameS z) : 1 ≤ z.length ∧ z.length ≤ 8 := by
  have q : (decide (1 ≤ (z.length : Int)) && decide ((z.length : Int) ≤ 8) && z.cps.toList.all fun c => decide (c ∈ lets)) = true := h.1
  rw [Bool.and_eq_true, Bool.and_eq_true, decide_eq_true_eq, decide_eq_true_eq] at q
  omega
theorem NameS.of {cs : List Nat} (h1 : 1 ≤ cs.length) (h8 : cs.length ≤ 8) (h : ∀ c ∈ cs, c ∈ lets) : NameS ⟨cs.toArray⟩ := by
  refine ⟨?_, sOk_list fun c hc => lets_ok c (h c hc)⟩
  have e : (⟨cs.toArray⟩ : Str).length = cs.length := List.size_toArray ..
  show (decide (1 ≤ (((⟨cs.toArray⟩ : Str).length : Nat) : Int)) && decide ((((⟨cs.toArray⟩ : Str).length : Nat) : Int) ≤ 8) && cs.all fun c => decide (c ∈ lets)) = true
  rw [e, decide_eq_true (by omega), decide_eq_true (by omega), Bool.true_and, Bool.true_and, List.all_eq_true]
  intro c hc
  exact decide_eq_true (h c hc)

abbrev s__law_name : Stmt := topS 30
abbrev N__law_name : List Str := ["_law_state_here", "_law_letters", "_law_k"]
theorem sc__law_name : FnScope N__law_name ["_law_state_here"] (defScope s__law_name) := ⟨rfl, rfl, rfl, by decide +kernel, rfl, by decide +kernel, by decide +kernel⟩
def sp__law_name (K : PySem.W.Frag) (c : Ad) : Sp := fun vs H Q E => arg1 (fun s => ∃ a, s = .ref a ∧ St2 H a ∧ Wf H ∧ ∀ z p q, NameS z → 0 ≤ p → Q (.str z) (upd H a (stL p q))) vs
theorem ok__law_name {P : Program} {w : World} {K : PySem.W.Frag} {mg : Str → Option Value} {base : Heap} {c : Ad} (T : Txt K mg c) : Ok P w K mg base 3 "_law_name" ["_law_state_here"] (sp__law_name K c) := by
  refine okF T.f__law_name sc__law_name (fun vs H Q E h => ?_) (fun f cdv A outer sh H vs Q E hr h => ?_)
  · obtain ⟨s, rfl, h⟩ := arg1.ex h
    rfl
  · obtain ⟨s, rfl, h⟩ := arg1.ex h
    have tk : Takes (cxOf (L2.CX P w) P w K mg base N__law_name "_law_name" (defScope s__law_name) f cdv A outer sh H (bE H E)) (fun cls d _ H' => bE H E cls d H') := takes_of rfl rfl rfl rfl
    refine ⟨_, pss_cons (ps_set (i := 1) sc__law_name.nd rfl (.inr rfl) pe_str)
      (pss_one (ps_ret (pe_join pe_str (pe_lc (own := [("_law_k", 2)]) (g := gName 2) rfl sc__law_name.nd (pi_range1 (by rfl) T.m_range (pa_cons (pe_op (opU_add (K := K)) pe_int (pe_f (ok__law_digit (K := K) T) hr passL (pa_cons (lv 0) (pa_cons pe_int pa_nil)))) pa_nil)) (blkOk_by (own := [("_law_k", 2)]) (N := N__law_name) (sc := defScope s__law_name) (by decide +kernel)) (fun _ _ _ _ _ => pg_name (i := 2) sc__law_name.nd rfl (.inl rfl)) (fun _ _ _ _ _ => pts_nil) (fun _ _ _ _ _ => pe_ix (ixU (K := K)) (lv 1) (pe_f (ok__law_digit (K := K) T) hr passL (pa_cons (lv 0) (pa_cons pe_int pa_nil))) (fun _ _ => rfl)))))), ?_⟩
    obtain ⟨a, rfl, s0, wf, k⟩ := h
    have d0 := Dr.refl s0 wf
    refine ⟨⟨_, rfl⟩, ?_⟩
    refine ⟨a, 8, rfl, rfl, s0, bas_lt (by decide) (by decide), wf, fun r2 p2 q2 g2 l2 n2 => ?_⟩
    have d2 := d0.drawn (q := q2) n2
    generalize upd H a (stL p2 q2) = H2 at d2 ⊢
    refine ⟨_, rfl, by omega, by omega, fun D nD => ?_⟩
    have nDa : D ≠ a := fun e => by
      obtain ⟨_, _, e1, _⟩ := d2.st
      rw [← e, nD] at e1
      cases e1
    refine lc_range (lo := 0) (n := (1 + r2).toNat) (fun i H' => ∃ cs : List Nat, Dr a H2 H' ∧ H' D = some (.lst (cs.map fun c => V.str ⟨#[c]⟩)) ∧ cs.length = i ∧ ∀ c ∈ cs, c ∈ lets) ⟨[], (Dr.refl d2.st d2.wf).new nD trivial, upd_same, rfl, by simp⟩ (fun i H' hi hp => ?_) (fun H' hp => ?_)
    · obtain ⟨cs, d, eD, hl, hcs⟩ := hp
      refine ⟨rfl, ?_⟩
      refine ⟨a, 26, rfl, rfl, d.st, bas_lt (by decide) (by decide), d.wf, fun r p q g l n => ?_⟩
      obtain ⟨c, hc, hcm⟩ := at_lt (xs := lets) g (by exact l)
      refine ⟨line_of (show 26 ≤ 16777216 by decide), c, hc, _, (upd_ne nDa).trans eD, line_lt ?_, cs ++ [c], ?_, ?_, ?_, ?_⟩
      · rw [List.length_map]
        omega
      · exact (d.drawn (q := q) n).put nD ((upd_ne nDa).trans eD) (fun _ z => by cases z) trivial nDa
      · rw [upd_same, List.map_append]
        rfl
      · rw [List.length_append, hl]
        rfl
      · intro x hx
        rcases List.mem_append.mp hx with h | h
        · exact hcs x h
        · rw [List.mem_singleton.mp h]
          exact hcm
    · obtain ⟨cs, d, eD, hl, hcs⟩ := hp
      have d3 := d2.trans d
      refine ⟨_, D, cs.map fun c => ⟨#[c]⟩, rfl, rfl, .inl (.inl (.inl ?_)), ?_, ?_⟩
      · rw [eD, List.map_map]
        rfl
      · have e1 : ((cs.map fun c => (⟨#[c]⟩ : Str)).map (·.length)).sum = cs.length := by
          clear eD hl hcs
          induction cs with
          | nil => rfl
          | cons c r ih =>
            rw [List.map_cons, List.map_cons, List.sum_cons, ih, List.length_cons]
            exact Nat.add_comm 1 _
        rw [e1, List.length_map]
        show cs.length + cs.length * 0 ≤ 16777216
        omega
      · have e2 : Txt.join (PySem.Str.ofString "") (cs.map fun c => (⟨#[c]⟩ : Str)) = ⟨cs.toArray⟩ := join_ones cs
        rw [e2]
        exact d3.done wf s0 fun p q h0 => k _ p q (NameS.of (by omega) (by omega) hcs) h0

/-- a work that is one -/
def WkOk (w : W5) : Prop := isWorkD (workD w) = true ∧ NameS w.n ∧ NameS w.h ∧ ∀ z, w.g = some z → NameS z
theorem WkOk.sm {w : W5} (h : WkOk w) : SmD (workD w) := fun ds e z m => by
  cases e
  have f : ∀ {x : Str}, NameS x → x.length ≤ 1000000 ∧ sOk x := fun q => ⟨by have := q.len; omega, q.2⟩
  simp only [List.mem_cons, List.not_mem_nil, or_false, reduceCtorEq, false_or] at m
  rcases m with m | m | m
  · cases m
    exact f h.2.1
  · cases m
    exact f h.2.2.1
  · cases q : w.g with
    | none =>
      rw [q] at m
      cases m
    | some x =>
      rw [q] at m
      cases m
      exact f (h.2.2.2 _ q)
theorem name_d {z : Str} (h : NameS z) : isNameD (.str z) = true := h.1
theorem whole_d {n a b : Int} (x : a ≤ n) (y : n ≤ b) : isWholeD (.int n) a b = true := by
  show (decide (a ≤ n) && decide (n ≤ b)) = true
  rw [decide_eq_true x, decide_eq_true y]
  rfl
theorem WkOk.loose {n h : Str} {r : Int} (a : NameS n) (b : NameS h) (c : 0 ≤ r) (d : r ≤ 1000000000000) : WkOk ⟨n, h, r, none, 0⟩ := by
  refine ⟨?_, a, b, fun z e => by cases e⟩
  show (isNameD (.str n) && (isNameD (.str h) && isWholeD (.int r) 0 1000000000000) && isWholeD (.int 0) 0 0) = true
  rw [name_d a, name_d b, whole_d c d]
  rfl
theorem WkOk.grouped {n h g : Str} {r p : Int} (a : NameS n) (b : NameS h) (c : 0 ≤ r) (d : r ≤ 1000000000000) (e : NameS g) (f : 0 ≤ p) (i : p ≤ 1000000000) : WkOk ⟨n, h, r, some g, p⟩ := by
  refine ⟨?_, a, b, fun z q => by cases q; exact e⟩
  show (isNameD (.str n) && (isNameD (.str h) && isWholeD (.int r) 0 1000000000000) && (isNameD (.str g) && isWholeD (.int p) 0 1000000000)) = true
  rw [name_d a, name_d b, whole_d c d, name_d e, whole_d f i]
  rfl
theorem work_shaped {w : W5} (h : WkOk w) : SeqAt.shaped (workD w) = true := by
  obtain ⟨_, a, b, g⟩ := h
  have a2 : PyData.strOk w.n = true := a.2
  have b2 : PyData.strOk w.h = true := b.2
  unfold workD SeqAt.shaped
  cases e : w.g with
  | none => simp [PyData.canLay0, PyData.canLayAll0, optD, a2, b2, PyData.depth, PyData.depthAll]
  | some z =>
    have g2 : PyData.strOk z = true := (g z e).2
    simp [PyData.canLay0, PyData.canLayAll0, optD, a2, b2, g2, PyData.depth, PyData.depthAll]
theorem work_eq {w : W5} (h : WkOk w) : PyData.eqv (workD w) (workD w) = true := SeqAt.eqv_refl _ (by
  have := work_shaped h
  unfold SeqAt.shaped at this
  rw [Bool.and_eq_true] at this
  exact this.1)
theorem e12 : (10 : Int) ^ Int.toNat 12 = 1000000000000 := by decide
theorem e9 : (10 : Int) ^ Int.toNat 9 = 1000000000 := by decide

theorem WkOk.place {w : W5} (h : WkOk w) : 0 ≤ w.p ∧ w.p ≤ 1000000000 := by
  have q := h.1
  have f : ∀ {b : Int}, isWholeD (.int w.p) 0 b = true → 0 ≤ w.p ∧ w.p ≤ b := fun {b} z => by
    have z' : (decide (0 ≤ w.p) && decide (w.p ≤ b)) = true := z
    rw [Bool.and_eq_true] at z'
    exact ⟨of_decide_eq_true z'.1, of_decide_eq_true z'.2⟩
  have q' : (isNameD (.str w.n) && (isNameD (.str w.h) && isWholeD (.int w.r) 0 1000000000000) && grpD (optD w.g) (.int w.p)) = true := q
  rw [Bool.and_eq_true] at q'
  have g := q'.2
  cases e : w.g with
  | none =>
    rw [e] at g
    have := f (b := 0) g
    omega
  | some z =>
    rw [e] at g
    have g2 : (isNameD (.str z) && isWholeD (.int w.p) 0 1000000000) = true := g
    rw [Bool.and_eq_true] at g2
    exact f g2.2

def gB (w : W5) : Bool := w.g.isNone
section
variable {K : PySem.W.Frag} {mg : Str → Option Value} {c : Ad}
theorem clsW_cl (T : Txt K mg c) (w : W5) : Cls K (clsW c w) := by
  unfold clsW
  cases w.g with
  | none => exact T.o_Loose.cl
  | some z => exact T.o_Grouped.cl
theorem clsW_n (T : Txt K mg c) (w : W5) : NoAttr K (clsW c w) "name" ∧ NoAttr K (clsW c w) "house" ∧ NoAttr K (clsW c w) "ready" ∧ NoAttr K (clsW c w) "group" ∧ NoAttr K (clsW c w) "place" := by
  unfold clsW
  cases w.g with
  | none => exact ⟨T.n_Loose_name, T.n_Loose_house, T.n_Loose_ready, T.n_Loose_group, T.n_Loose_place⟩
  | some z => exact ⟨T.n_Grouped_name, T.n_Grouped_house, T.n_Grouped_ready, T.n_Grouped_group, T.n_Grouped_place⟩
theorem clsW_ty (T : Txt K mg c) {H : Hp} {w : W5} {x dx : Addr} {fs : List (Str × V)} (h : H x = some (.ins (clsW c w) dx fs)) : TyX K H (.ref x) (.ref (clsW c w)) := by
  unfold clsW at h ⊢
  cases q : w.g with
  | none =>
    rw [q] at h
    exact T.o_Loose.ty h
  | some z =>
    rw [q] at h
    exact T.o_Grouped.ty h
theorem clsW_k (T : Txt K mg c) (w : W5) : PySem.W.kitOne K (.ref (clsW c w)) (.ref c.Work) = some true ∧ PySem.W.kitOne K (.ref (clsW c w)) (.ref c.Loose) = some (gB w) ∧ PySem.W.kitOne K (.ref (clsW c w)) (.ref c.Grouped) = some (!gB w) := by
  unfold clsW gB
  cases w.g with
  | none => exact ⟨T.s_Loose_Work, T.s_Loose_Loose, T.s_Loose_Grouped⟩
  | some z => exact ⟨T.s_Grouped_Work, T.s_Grouped_Loose, T.s_Grouped_Grouped⟩
end
theorem optV_non (w : W5) : (false != decide (optV w.g = V.non)) = gB w := by
  unfold gB
  cases w.g <;> rfl

theorem WorkAt.keep {c : Ad} {H H' : Hp} {x : Addr} {w : W5} (h : WorkAt c H x w) (s : Same H H') : WorkAt c H' x w := by
  obtain ⟨dx, h⟩ := h
  exact ⟨dx, s _ _ h⟩
theorem WorkAt.put {c : Ad} {H : Hp} {x R : Addr} {w : W5} {xs : List V} {o : HO} (h : WorkAt c H x w) (e : H R = some (.lst xs)) : WorkAt c (upd H R o) x w := by
  obtain ⟨dx, h⟩ := h
  refine ⟨dx, ?_⟩
  rw [upd_ne (ne_of h e (fun z => by cases z))]
  exact h
theorem WorkAt.drawn {c : Ad} {a : Addr} {H H' : Hp} {x : Addr} {w : W5} (h : WorkAt c H x w) (d : Dr a H H') (s : St2 H a) : WorkAt c H' x w := by
  obtain ⟨dx, h⟩ := h
  exact ⟨dx, d.at h (fun _ _ z => by cases z) s⟩
/-- a value that is a work's tuple, a work -/
def TupAt (K : PySem.W.Frag) (H : Hp) (v : V) (w : W5) : Prop := ∃ p, v = .ref p ∧ SqT K H p (tupW w)
def WkV (c : Ad) (H : Hp) (v : V) (w : W5) : Prop := ∃ x, v = .ref x ∧ WorkAt c H x w
theorem WkV.keep {c : Ad} {H H' : Hp} {v : V} {w : W5} (h : WkV c H v w) (s : Same H H') : WkV c H' v w := by
  obtain ⟨x, e, h⟩ := h
  exact ⟨x, e, h.keep s⟩
theorem WkV.put {c : Ad} {H : Hp} {v : V} {R : Addr} {w : W5} {xs : List V} {o : HO} (h : WkV c H v w) (e : H R = some (.lst xs)) : WkV c (upd H R o) v w := by
  obtain ⟨x, e1, h⟩ := h
  exact ⟨x, e1, h.put e⟩
theorem WkV.drawn {c : Ad} {a : Addr} {H H' : Hp} {v : V} {w : W5} (h : WkV c H v w) (d : Dr a H H') (s : St2 H a) : WkV c H' v w := by
  obtain ⟨x, e1, h⟩ := h
  exact ⟨x, e1, h.drawn d s⟩
theorem TupAt.keep {K : PySem.W.Frag} {H H' : Hp} {v : V} {w : W5} (h : TupAt K H v w) (s : ∀ p xs, SqT K H p xs → SqT K H' p xs) : TupAt K H' v w := by
  obtain ⟨p, e, h⟩ := h
  exact ⟨p, e, s _ _ h⟩
theorem TupAt.dp {K : PySem.W.Frag} {H : Hp} {v : V} {w : W5} (h : TupAt K H v w) : Dp K H v (workD w) := by
  obtain ⟨p, rfl, h⟩ := h
  exact work_dp h
theorem tups_dpa {K : PySem.W.Frag} {H : Hp} : ∀ {vs : List V} {ws : List W5}, Al2 (TupAt K H) vs ws → DpAll K H vs (ws.map workD)
  | _, _, .nil => .nil
  | _, _, .cons p h => .cons p.dp (tups_dpa h)
theorem works_shaped {ws : List W5} (h : ∀ w ∈ ws, WkOk w) : SeqAt.shaped (.list (ws.map workD)) = true := by
  have h1 : PyData.canLayAll0 (ws.map workD) = true := by
    induction ws with
    | nil => rfl
    | cons w r ih =>
      have q := work_shaped (h w List.mem_cons_self)
      unfold SeqAt.shaped at q
      rw [Bool.and_eq_true] at q
      show (PyData.canLay0 (workD w) && PyData.canLayAll0 (r.map workD)) = true
      rw [q.1, ih fun x hx => h x (List.mem_cons_of_mem _ hx)]
      rfl
  have h2 : PyData.depthAll (ws.map workD) ≤ 1 := by
    clear h h1
    induction ws with
    | nil => exact Nat.zero_le _
    | cons w r ih =>
      show max (PyData.depth (workD w)) (PyData.depthAll (r.map workD)) ≤ 1
      have e : PyData.depth (workD w) ≤ 1 := by
        unfold workD
        cases w.g <;> simp [PyData.depth, PyData.depthAll, optD]
      omega
  unfold SeqAt.shaped
  show (PyData.canLayAll0 (ws.map workD) && decide (PyData.depthAll (ws.map workD) + 1 ≤ 64)) = true
  rw [h1, decide_eq_true (by omega)]
  rfl
theorem works_eqv {ws : List W5} (h : ∀ w ∈ ws, WkOk w) : PyData.eqv (.list (ws.map workD)) (.list (ws.map workD)) = true := SeqAt.eqv_refl _ (by
  have := works_shaped h
  unfold SeqAt.shaped at this
  rw [Bool.and_eq_true] at this
  exact this.1)
theorem eqv_nilL (ds : List PyData) : PyData.eqv (.list ds) (.list []) = ds.isEmpty := by cases ds <;> rfl
theorem csW (c : Ad) (w : W5) : clsW c w = c.Grouped ∨ clsW c w = c.Loose := by
  unfold clsW
  cases w.g with
  | none => exact .inr rfl
  | some z => exact .inl rfl

theorem cut_pre {z : Str} {i : Int} (h0 : 0 ≤ i) : cutS z none (some i) = ⟨(z.cps.toList.take i.toNat).toArray⟩ := by
  obtain ⟨j, rfl⟩ : ∃ j : Nat, i = j := ⟨i.toNat, by omega⟩
  unfold cutS
  rw [HT.sIx_nat, HT.sIx_none, List.drop_zero, Nat.sub_zero, Int.toNat_natCast]
  congr 2
  have e : z.length = z.cps.toList.length := (Array.length_toList).symm
  rw [e]
  by_cases h : j ≤ z.cps.toList.length
  · rw [Nat.min_eq_left h]
  · rw [Nat.min_eq_right (by omega), List.take_of_length_le (Nat.le_refl _), List.take_of_length_le (by omega)]
theorem cut_suf {z : Str} {i : Int} (h0 : 0 ≤ i) : cutS z (some i) none = ⟨(z.cps.toList.drop i.toNat).toArray⟩ := by
  obtain ⟨j, rfl⟩ : ∃ j : Nat, i = j := ⟨i.toNat, by omega⟩
  unfold cutS
  rw [HT.sIx_nat, HT.sIx_none, Int.toNat_natCast]
  congr 1
  have e : z.length = z.cps.toList.length := (Array.length_toList).symm
  rw [e]
  by_cases h : j ≤ z.cps.toList.length
  · rw [Nat.min_eq_left h, List.take_of_length_le (by rw [List.length_drop]; omega)]
  · rw [Nat.min_eq_right (by omega), List.drop_of_length_le (Nat.le_refl _), List.drop_of_length_le (by omega)]
    simp
/-- a name with one letter put otherwise -/
theorem NameS.put {z : Str} {i : Int} {x : Nat} (h : NameS z) (h0 : 0 ≤ i) (h1 : i < z.length) (hx : x ∈ lets) : NameS (cutS z none (some i) ++ ⟨#[x]⟩ ++ cutS z (some (i + 1)) none) := by
  obtain ⟨j, rfl⟩ : ∃ j : Nat, i = j := ⟨i.toNat, by omega⟩
  have e : z.length = z.cps.toList.length := (Array.length_toList).symm
  have hl := h.len
  have ha : ∀ c ∈ z.cps.toList, c ∈ lets := by
    have q : (decide (1 ≤ (z.length : Int)) && decide ((z.length : Int) ≤ 8) && z.cps.toList.all fun c => decide (c ∈ lets)) = true := h.1
    rw [Bool.and_eq_true, List.all_eq_true] at q
    intro c hc
    exact of_decide_eq_true (q.2 c hc)
  rw [cut_pre h0, cut_suf (by omega)]
  have e2 : (⟨(z.cps.toList.take (j : Int).toNat).toArray⟩ : Str) ++ ⟨#[x]⟩ ++ ⟨(z.cps.toList.drop ((j : Int) + 1).toNat).toArray⟩ = ⟨(z.cps.toList.take j ++ [x] ++ z.cps.toList.drop (j + 1)).toArray⟩ := by
    have n1 : (j : Int).toNat = j := by omega
    have n2 : ((j : Int) + 1).toNat = j + 1 := by omega
    rw [n1, n2]
    show (⟨(z.cps.toList.take j).toArray ++ #[x] ++ (z.cps.toList.drop (j + 1)).toArray⟩ : Str) = _
    simp
  rw [e2]
  refine NameS.of ?_ ?_ ?_
  · simp
    omega
  · rw [List.length_append, List.length_append, List.length_take, List.length_drop, List.length_singleton]
    omega
  · intro c hc
    rcases List.mem_append.mp hc with hc | hc
    · rcases List.mem_append.mp hc with hc | hc
      · exact ha c (List.mem_of_mem_take hc)
      · rw [List.mem_singleton.mp hc]
        exact hx
    · exact ha c (List.mem_of_mem_drop hc)

abbrev oddS : Str := PySem.Str.ofString " !\"#$&'()*+,-./0123456789:;<=>?@ABCDEFGHIJKLMNOPQRSTUVWXYZ[\\]^_`{|}~\n"
theorem odd_ok : ∀ c ∈ oddS.cps.toList, c < 0x110000 ∧ c ∉ lets := by decide +kernel
inductive FlD : V → PyData → Prop where
  | str (z : Str) : FlD (.str z) (.str z)
  | int (n : Int) : FlD (.int n) (.int n)
  | bl (b : Bool) : FlD (.bl b) (.bool b)
  | non : FlD .non .none
/-- a value that was made, flat or a list or tuple of flat ones that was not there in H -/
def Odd (H H' : Hp) (v : V) (d : PyData) : Prop := FlD v d ∨ ∃ y zs es, v = .ref y ∧ H y = none ∧ ((H' y = some (.lst zs) ∧ d = .list es) ∨ (H' y = some (.tup zs) ∧ d = .tuple es)) ∧ Al2 FlD zs es
def Elt (F a : Addr) (H : Hp) (v : V) (d : PyData) : Prop := FlD v d ∨ ∃ y zs es, v = .ref y ∧ y ≠ F ∧ y ≠ a ∧ ((H y = some (.lst zs) ∧ d = .list es) ∨ (H y = some (.tup zs) ∧ d = .tuple es)) ∧ Al2 FlD zs es
theorem FlD.dp {K : PySem.W.Frag} {H : Hp} {v : V} {d : PyData} (h : FlD v d) : Dp K H v d := by
  cases h with
  | str z => exact .str z
  | int n => exact .int n
  | bl b => exact .bl b
  | non => exact .non
theorem fl_dpa {K : PySem.W.Frag} {H : Hp} : ∀ {vs : List V} {ds : List PyData}, Al2 FlD vs ds → DpAll K H vs ds
  | _, _, .nil => .nil
  | _, _, .cons p h => .cons p.dp (fl_dpa h)
theorem Elt.dp {K : PySem.W.Frag} {F a : Addr} {H : Hp} {v : V} {d : PyData} (h : Elt F a H v d) : Dp K H v d := by
  rcases h with h | ⟨y, zs, es, rfl, _, _, ⟨h, rfl⟩ | ⟨h, rfl⟩, f⟩
  · exact h.dp
  · exact .lst (.inl (.inl h)) (fl_dpa f)
  · exact .tup (.inl (.inl h)) (fl_dpa f)
theorem elt_dpa {K : PySem.W.Frag} {F a : Addr} {H : Hp} : ∀ {vs : List V} {ds : List PyData}, Al2 (Elt F a H) vs ds → DpAll K H vs ds
  | _, _, .nil => .nil
  | _, _, .cons p h => .cons p.dp (elt_dpa h)
theorem Elt.keep {F a : Addr} {H H' : Hp} {v : V} {d : PyData} (h : Elt F a H v d) (s : ∀ y o, y ≠ F → y ≠ a → H y = some o → H' y = some o) : Elt F a H' v d := by
  rcases h with h | ⟨y, zs, es, rfl, n1, n2, ⟨h, rfl⟩ | ⟨h, rfl⟩, f⟩
  · exact .inl h
  · exact .inr ⟨y, zs, es, rfl, n1, n2, .inl ⟨s _ _ n1 n2 h, rfl⟩, f⟩
  · exact .inr ⟨y, zs, es, rfl, n1, n2, .inr ⟨s _ _ n1 n2 h, rfl⟩, f⟩
theorem Odd.elt {F a : Addr} {H H' : Hp} {v : V} {d : PyData} {o : HO} (h : Odd H H' v d) (eF : H F = some o) (s : St2 H a) : Elt F a H' v d := by
  rcases h with h | ⟨y, zs, es, rfl, n, q, f⟩
  · exact .inl h
  · refine .inr ⟨y, zs, es, rfl, ?_, ?_, q, f⟩
    · intro e
      subst e
      rw [n] at eF
      cases eF
    · exact st_ne s n
theorem Odd.keep {H H' H2 : Hp} {a : Addr} {v : V} {d : PyData} (h : Odd H H' v d) (s0 : St2 H a) (dr : Dr a H' H2) : Odd H H2 v d := by
  rcases h with h | ⟨y, zs, es, rfl, n, q, f⟩
  · exact .inl h
  · have ny := st_ne s0 n
    refine .inr ⟨y, zs, es, rfl, n, ?_, f⟩
    rcases q with ⟨q, e⟩ | ⟨q, e⟩
    · exact .inl ⟨dr.kp _ _ ny q, e⟩
    · exact .inr ⟨dr.kp _ _ ny q, e⟩
/-- short, if it is a text -/
def SmE (d : PyData) : Prop := ∀ z, d = .str z → z.length ≤ 1000000 ∧ sOk z
def NoNm (d : PyData) : Prop := isNameD d = false ∧ SmE d ∧ d ≠ .none
def NoNum (d : PyData) (m : Int) : Prop := SmE d ∧ ∀ b, b ≤ m → isWholeD d 0 b = false
theorem no_put {z : Str} {i : Int} {x : Nat} (h0 : 0 ≤ i) (h1 : i < z.length) (hx : x ∉ lets) : isNameD (.str (cutS z none (some i) ++ ⟨#[x]⟩ ++ cutS z (some (i + 1)) none)) = false := by
  rw [cut_pre h0, cut_suf (by omega)]
  show (decide _ && decide _ && _) = false
  rw [Bool.and_eq_false_iff]
  right
  rw [List.all_eq_false]
  refine ⟨x, ?_, by simpa using hx⟩
  show x ∈ ((z.cps.toList.take i.toNat).toArray ++ #[x] ++ (z.cps.toList.drop (i + 1).toNat).toArray).toList
  simp
theorem whole_out {n a b : Int} (h : n < a ∨ b < n) : isWholeD (.int n) a b = false := by
  show (decide (a ≤ n) && decide (n ≤ b)) = false
  rw [Bool.and_eq_false_iff]
  rcases h with h | h
  · left
    exact decide_eq_false (by omega)
  · right
    exact decide_eq_false (by omega)

abbrev s__law_no_name : Stmt := topS 31
abbrev N__law_no_name : List Str := ["_law_state_here", "_law_name_here", "_law_signs", "_law_at", "_law_odd"]
theorem sc__law_no_name : FnScope N__law_no_name ["_law_state_here"] (defScope s__law_no_name) := ⟨rfl, rfl, rfl, by decide +kernel, rfl, by decide +kernel, by decide +kernel⟩
def sp__law_no_name (K : PySem.W.Frag) (c : Ad) : Sp := fun vs H Q E => arg1 (fun s => ∃ a, s = .ref a ∧ St2 H a ∧ Wf H ∧ ∀ v d H', Odd H H' v d → NoNm d → Dr a H H' → Q v H') vs
theorem ok__law_no_name {P : Program} {w : World} {K : PySem.W.Frag} {mg : Str → Option Value} {base : Heap} {c : Ad} (T : Txt K mg c) : Ok P w K mg base 4 "_law_no_name" ["_law_state_here"] (sp__law_no_name K c) := by
  refine okF T.f__law_no_name sc__law_no_name (fun vs H Q E h => ?_) (fun f cdv A outer sh H vs Q E hr h => ?_)
  · obtain ⟨s, rfl, h⟩ := arg1.ex h
    rfl
  · obtain ⟨s, rfl, h⟩ := arg1.ex h
    have tk : Takes (cxOf (L2.CX P w) P w K mg base N__law_no_name "_law_no_name" (defScope s__law_no_name) f cdv A outer sh H (bE H E)) (fun cls d _ H' => bE H E cls d H') := takes_of rfl rfl rfl rfl
    refine ⟨_, pss_cons (ps_set (i := 1) sc__law_no_name.nd rfl (.inl rfl) (pe_f (ok__law_name (K := K) T) hr passL (pa_cons (lv 0) pa_nil)))
      (pss_cons (ps_set (i := 2) sc__law_no_name.nd rfl (.inl rfl) pe_str)
      (pss_cons (ps_set (i := 3) sc__law_no_name.nd rfl (.inl rfl) (pe_f (ok__law_digit (K := K) T) (hr.mono (by decide)) passL (pa_cons (lv 0) (pa_cons (pe_callB (callU_len (K := K)) (by rfl) T.m_len (by decide +kernel) (pa_cons (lv 1) pa_nil)) pa_nil))))
      (pss_cons (ps_set (i := 4) sc__law_no_name.nd rfl (.inl rfl) (pe_lst (pa_cons (pe_op (opU_add (K := K)) (pe_op (opU_add (K := K)) (pe_slice (slU (K := K)) (lv 1) po_none (po_someU (lv 3))) (pe_ix (ixU (K := K)) (lv 2) (pe_f (ok__law_digit (K := K) T) (hr.mono (by decide)) passL (pa_cons (lv 0) (pa_cons (pe_callB (callU_len (K := K)) (by rfl) T.m_len (by decide +kernel) (pa_cons (lv 2) pa_nil)) pa_nil))) (fun _ _ => rfl))) (pe_slice (slU (K := K)) (lv 1) (po_someU (pe_op (opU_add (K := K)) (lv 3) pe_int)) po_none)) (pa_cons pe_str (pa_cons pe_str (pa_cons pe_int (pa_cons (pe_lst (pa_cons (lv 1) pa_nil)) (pa_cons (pe_tup (pa_cons (lv 1) pa_nil)) (pa_cons pe_bl pa_nil)))))))))
      (pss_one (ps_ret (pe_ix (ixU (K := K)) (lv 4) (pe_ix (ixU (K := K)) (pe_lst (pa_cons pe_int (pa_cons pe_int (pa_cons pe_int (pa_cons pe_int (pa_cons pe_int (pa_cons pe_int (pa_cons pe_int (pa_cons pe_int (pa_cons pe_int pa_nil)))))))))) (pe_f (ok__law_digit (K := K) T) (hr.mono (by decide)) passL (pa_cons (lv 0) (pa_cons pe_int pa_nil))) (fun _ _ => rfl)) (fun _ _ => rfl))))))), ?_⟩
    obtain ⟨a, rfl, s0, wf, k⟩ := h
    have d0 := Dr.refl s0 wf
    refine ⟨a, rfl, d0.st, d0.wf, fun nm p1 q1 snm n1 => ?_⟩
    have d1 := d0.drawn (q := q1) n1
    generalize upd H a (stL p1 q1) = H1 at d1  ⊢
    have hg := snm.len
    have lg : nm.length ≤ sizeLine := line_of (by omega)
    refine ⟨lg, ?_⟩
    refine ⟨a, _, rfl, rfl, d1.st, bas_lt (by omega) (by omega), d1.wf, fun r2 p2 q2 g2 l2 n2 => ?_⟩
    have d2 := d1.drawn (q := q2) n2
    generalize upd H1 a (stL p2 q2) = H2 at d2  ⊢
    refine ⟨lg, line_of (by decide +kernel), ?_⟩
    refine ⟨a, _, rfl, rfl, d2.st, bas_lt (by decide +kernel) (by decide +kernel), d2.wf, fun r3 p3 q3 g3 l3 n3 => ?_⟩
    have d3 := d2.drawn (q := q3) n3
    generalize upd H2 a (stL p3 q3) = H3 at d3  ⊢
    obtain ⟨cx, hcx, mcx⟩ := at_lt (xs := oddS.cps.toList) g3 (by exact l3)
    obtain ⟨ocx, ncx⟩ := odd_ok cx mcx
    refine ⟨line_of (by decide +kernel), cx, hcx, ?_⟩
    have la : ∀ x y : Str, (x ++ y).length = x.length + y.length := fun x y => Str.length_append x y
    have c1 : ∀ lo hi, (cutS nm lo hi).length ≤ 8 := fun lo hi => Nat.le_trans (cutS_length nm lo hi) hg.2
    have lc : ((⟨#[cx]⟩ : Str)).length = 1 := rfl
    refine ⟨line_of (by have := c1 none (some r2); omega), lg, line_of (by have := c1 none (some r2); have := c1 (some (r2 + 1)) none; rw [la]; omega), ?_⟩
    have no1 : NoNm (.str (cutS nm none (some r2) ++ ⟨#[cx]⟩ ++ cutS nm (some (r2 + 1)) none)) := by
      refine ⟨no_put g2 l2 ncx, fun z e => ?_, fun e => by cases e⟩
      cases e
      refine ⟨?_, sOk_app (sOk_app (sOk_cut snm.2) (sOk_one ocx)) (sOk_cut snm.2)⟩
      have := c1 none (some r2)
      have := c1 (some (r2 + 1)) none
      rw [la, la]
      omega
    generalize cutS nm none (some r2) ++ ⟨#[cx]⟩ ++ cutS nm (some (r2 + 1)) none = bad at no1 ⊢
    refine ⟨line_of (show 1 ≤ 16777216 by decide), fun y1 ny1 => ?_⟩
    have ney1 := st_ne d3.st ny1
    have d4 := d3.new (p := y1) (o := .lst [.str nm]) ny1 trivial
    have ey1 : (upd H3 y1 (.lst [.str nm])) y1 = some (.lst [.str nm]) := upd_same
    generalize upd H3 y1 (.lst [.str nm]) = H4 at d4 ey1  ⊢
    refine ⟨line_of (show 1 ≤ 16777216 by decide), fun y2 ny2 => ?_⟩
    have ney2 := st_ne d4.st ny2
    have d5 := d4.new (p := y2) (o := .tup [.str nm]) ny2 trivial
    replace ey1 := same_new (o := .tup [.str nm]) ny2 _ _ ey1
    have ey2 : (upd H4 y2 (.tup [.str nm])) y2 = some (.tup [.str nm]) := upd_same
    generalize upd H4 y2 (.tup [.str nm]) = H5 at d5 ey2 ey1 ⊢
    refine ⟨line_of (show 7 ≤ 16777216 by decide), fun y3 ny3 => ?_⟩
    have ney3 := st_ne d5.st ny3
    have d6 := d5.new (p := y3) (o := .lst [.str bad, .str "", .str "abcdefghi", .int 5, .ref y1, .ref y2, .bl true]) ny3 trivial
    replace ey1 := same_new (o := .lst [.str bad, .str "", .str "abcdefghi", .int 5, .ref y1, .ref y2, .bl true]) ny3 _ _ ey1
    replace ey2 := same_new (o := .lst [.str bad, .str "", .str "abcdefghi", .int 5, .ref y1, .ref y2, .bl true]) ny3 _ _ ey2
    have ey3 : (upd H5 y3 (.lst [.str bad, .str "", .str "abcdefghi", .int 5, .ref y1, .ref y2, .bl true])) y3 = some (.lst [.str bad, .str "", .str "abcdefghi", .int 5, .ref y1, .ref y2, .bl true]) := upd_same
    generalize upd H5 y3 (.lst [.str bad, .str "", .str "abcdefghi", .int 5, .ref y1, .ref y2, .bl true]) = H6 at d6 ey3 ey1 ey2 ⊢
    refine ⟨line_of (show 9 ≤ 16777216 by decide), fun y4 ny4 => ?_⟩
    have ney4 := st_ne d6.st ny4
    have d7 := d6.new (p := y4) (o := .lst [.int 0, .int 0, .int 0, .int 1, .int 2, .int 3, .int 4, .int 5, .int 6]) ny4 trivial
    replace ey1 := same_new (o := .lst [.int 0, .int 0, .int 0, .int 1, .int 2, .int 3, .int 4, .int 5, .int 6]) ny4 _ _ ey1
    replace ey2 := same_new (o := .lst [.int 0, .int 0, .int 0, .int 1, .int 2, .int 3, .int 4, .int 5, .int 6]) ny4 _ _ ey2
    replace ey3 := same_new (o := .lst [.int 0, .int 0, .int 0, .int 1, .int 2, .int 3, .int 4, .int 5, .int 6]) ny4 _ _ ey3
    have ey4 : (upd H6 y4 (.lst [.int 0, .int 0, .int 0, .int 1, .int 2, .int 3, .int 4, .int 5, .int 6])) y4 = some (.lst [.int 0, .int 0, .int 0, .int 1, .int 2, .int 3, .int 4, .int 5, .int 6]) := upd_same
    generalize upd H6 y4 (.lst [.int 0, .int 0, .int 0, .int 1, .int 2, .int 3, .int 4, .int 5, .int 6]) = H7 at d7 ey4 ey1 ey2 ey3 ⊢
    refine ⟨a, 9, rfl, rfl, d7.st, bas_lt (by decide) (by decide), d7.wf, fun r8 p8 q8 g8 l8 n8 => ?_⟩
    have d8 := d7.drawn (q := q8) n8
    replace ey1 := (upd_ne (o := stL p8 q8) ney1).trans ey1
    replace ey2 := (upd_ne (o := stL p8 q8) ney2).trans ey2
    replace ey3 := (upd_ne (o := stL p8 q8) ney3).trans ey3
    replace ey4 := (upd_ne (o := stL p8 q8) ney4).trans ey4
    generalize upd H7 a (stL p8 q8) = H8 at d8 ey1 ey2 ey3 ey4 ⊢
    obtain ⟨v1, hv1, m1⟩ := at_lt (xs := [V.int 0, .int 0, .int 0, .int 1, .int 2, .int 3, .int 4, .int 5, .int 6]) g8 (by exact l8)
    refine ⟨_, v1, .inl (.inl (.inl ey4)), hv1, ?_⟩
    obtain ⟨j, rfl, j0, j1⟩ : ∃ j : Int, v1 = .int j ∧ 0 ≤ j ∧ j < 7 := by
      simp only [List.mem_cons, List.not_mem_nil, or_false] at m1
      rcases m1 with rfl | rfl | rfl | rfl | rfl | rfl | rfl | rfl | rfl
      all_goals exact ⟨_, rfl, by decide, by decide⟩
    obtain ⟨v2, hv2, m2⟩ := at_lt (xs := [V.str bad, .str "", .str "abcdefghi", .int 5, .ref y1, .ref y2, .bl true]) j0 (by exact j1)
    refine ⟨_, v2, .inl (.inl (.inl ey3)), hv2, ?_⟩
    have f1 : H y1 = none := d3.free ny1
    have f2 : H y2 = none := d4.free ny2
    simp only [List.mem_cons, List.not_mem_nil, or_false] at m2
    rcases m2 with rfl | rfl | rfl | rfl | rfl | rfl | rfl
    · exact bQ.mk d8.wf (k _ _ _ (.inl (.str _)) no1 d8)
    · exact bQ.mk d8.wf (k _ (.str "") _ (.inl (.str _)) ⟨by decide +kernel, fun z e => by cases e; exact ⟨by decide +kernel, by decide +kernel⟩, fun e => by cases e⟩ d8)
    · exact bQ.mk d8.wf (k _ (.str "abcdefghi") _ (.inl (.str _)) ⟨by decide +kernel, fun z e => by cases e; exact ⟨by decide +kernel, by decide +kernel⟩, fun e => by cases e⟩ d8)
    · exact bQ.mk d8.wf (k _ (.int 5) _ (.inl (.int _)) ⟨rfl, fun z e => (by cases e), fun e => (by cases e)⟩ d8)
    · exact bQ.mk d8.wf (k _ (.list [.str nm]) _ (.inr ⟨y1, _, _, rfl, f1, .inl ⟨ey1, rfl⟩, .cons (.str _) .nil⟩) ⟨rfl, fun z e => (by cases e), fun e => (by cases e)⟩ d8)
    · exact bQ.mk d8.wf (k _ (.tuple [.str nm]) _ (.inr ⟨y2, _, _, rfl, f2, .inr ⟨ey2, rfl⟩, .cons (.str _) .nil⟩) ⟨rfl, fun z e => (by cases e), fun e => (by cases e)⟩ d8)
    · exact bQ.mk d8.wf (k _ (.bool true) _ (.inl (.bl _)) ⟨rfl, fun z e => (by cases e), fun e => (by cases e)⟩ d8)

abbrev s__law_no_number : Stmt := topS 32
abbrev N__law_no_number : List Str := ["_law_state_here", "_law_most", "_law_odd"]
theorem sc__law_no_number : FnScope N__law_no_number ["_law_state_here", "_law_most"] (defScope s__law_no_number) := ⟨rfl, rfl, rfl, by decide +kernel, rfl, by decide +kernel, by decide +kernel⟩
def sp__law_no_number (K : PySem.W.Frag) (c : Ad) : Sp := fun vs H Q E => arg2 (fun s u => ∃ a m, s = .ref a ∧ u = .int m ∧ 0 ≤ m ∧ m ≤ 1000000000000 ∧ St2 H a ∧ Wf H ∧ ∀ v d H', Odd H H' v d → NoNum d m → Dr a H H' → Q v H') vs
theorem ok__law_no_number {P : Program} {w : World} {K : PySem.W.Frag} {mg : Str → Option Value} {base : Heap} {c : Ad} (T : Txt K mg c) : Ok P w K mg base 3 "_law_no_number" ["_law_state_here", "_law_most"] (sp__law_no_number K c) := by
  refine okF T.f__law_no_number sc__law_no_number (fun vs H Q E h => ?_) (fun f cdv A outer sh H vs Q E hr h => ?_)
  · obtain ⟨s, u, rfl, h⟩ := arg2.ex h
    rfl
  · obtain ⟨s, u, rfl, h⟩ := arg2.ex h
    have tk : Takes (cxOf (L2.CX P w) P w K mg base N__law_no_number "_law_no_number" (defScope s__law_no_number) f cdv A outer sh H (bE H E)) (fun cls d _ H' => bE H E cls d H') := takes_of rfl rfl rfl rfl
    refine ⟨_, pss_cons (ps_set (i := 2) sc__law_no_number.nd rfl (.inl rfl) (pe_lst (pa_cons (pe_un unU_neg pe_int) (pa_cons (pe_op (opU_add (K := K)) (lv 1) pe_int) (pa_cons pe_bl (pa_cons pe_bl (pa_cons pe_non (pa_cons pe_str (pa_cons (pe_un unU_neg (pe_op opU_pow pe_int pe_int)) (pa_cons (pe_op (opU_add (K := K)) (pe_op (opU_add (K := K)) (lv 1) pe_int) (pe_f (ok__law_digit (K := K) T) hr passL (pa_cons (lv 0) (pa_cons (pe_op opU_pow pe_int pe_int) pa_nil)))) (pa_cons (pe_lst (pa_cons pe_int pa_nil)) pa_nil)))))))))))
      (pss_one (ps_ret (pe_ix (ixU (K := K)) (lv 2) (pe_f (ok__law_digit (K := K) T) hr passL (pa_cons (lv 0) (pa_cons (pe_callB (callU_len (K := K)) (by rfl) T.m_len (by decide +kernel) (pa_cons (lv 2) pa_nil)) pa_nil))) (fun _ _ => rfl)))), ?_⟩
    obtain ⟨a, m, rfl, rfl, hm0, hm1, s0, wf, k⟩ := h
    have d0 := Dr.refl s0 wf
    refine ⟨⟨by decide, by decide, by decide⟩, ?_⟩
    refine ⟨⟨by decide, by decide, by decide⟩, ?_⟩
    refine ⟨a, _, rfl, rfl, d0.st, bas_lt (by decide) (by decide), d0.wf, fun r1 p1 q1 g1 l1 n1 => ?_⟩
    have d1 := d0.drawn (q := q1) n1
    generalize upd H a (stL p1 q1) = H1 at d1  ⊢
    refine ⟨line_of (show 1 ≤ 16777216 by decide), fun y1 ny1 => ?_⟩
    have ney1 := st_ne d1.st ny1
    have d2 := d1.new (p := y1) (o := .lst [.int 0]) ny1 trivial
    have ey1 : (upd H1 y1 (.lst [.int 0])) y1 = some (.lst [.int 0]) := upd_same
    generalize upd H1 y1 (.lst [.int 0]) = H2 at d2 ey1  ⊢
    refine ⟨line_of (show 9 ≤ 16777216 by decide), fun y2 ny2 => ?_⟩
    have ney2 := st_ne d2.st ny2
    have d3 := d2.new (p := y2) (o := .lst [.int (-1), .int (m + 1), .bl true, .bl false, .non, .str "0", .int (-(10 ^ Int.toNat 30)), .int (m + 1 + r1), .ref y1]) ny2 trivial
    replace ey1 := same_new (o := .lst [.int (-1), .int (m + 1), .bl true, .bl false, .non, .str "0", .int (-(10 ^ Int.toNat 30)), .int (m + 1 + r1), .ref y1]) ny2 _ _ ey1
    have ey2 : (upd H2 y2 (.lst [.int (-1), .int (m + 1), .bl true, .bl false, .non, .str "0", .int (-(10 ^ Int.toNat 30)), .int (m + 1 + r1), .ref y1])) y2 = some (.lst [.int (-1), .int (m + 1), .bl true, .bl false, .non, .str "0", .int (-(10 ^ Int.toNat 30)), .int (m + 1 + r1), .ref y1]) := upd_same
    generalize upd H2 y2 (.lst [.int (-1), .int (m + 1), .bl true, .bl false, .non, .str "0", .int (-(10 ^ Int.toNat 30)), .int (m + 1 + r1), .ref y1]) = H3 at d3 ey2 ey1 ⊢
    refine .inl ⟨_, .inl (.inl (.inl ey2)), ?_⟩
    refine ⟨a, 9, rfl, rfl, d3.st, bas_lt (by decide) (by decide), d3.wf, fun r4 p4 q4 g4 l4 n4 => ?_⟩
    have d4 := d3.drawn (q := q4) n4
    replace ey1 := (upd_ne (o := stL p4 q4) ney1).trans ey1
    replace ey2 := (upd_ne (o := stL p4 q4) ney2).trans ey2
    generalize upd H3 a (stL p4 q4) = H4 at d4 ey1 ey2 ⊢
    obtain ⟨v2, hv2, m2⟩ := at_lt (xs := [V.int (-1), .int (m + 1), .bl true, .bl false, .non, .str "0", .int (-(10 ^ Int.toNat 30)), .int (m + 1 + r1), .ref y1]) g4 (by exact l4)
    refine ⟨_, v2, .inl (.inl (.inl ey2)), hv2, ?_⟩
    have f1 : H y1 = none := d1.free ny1
    have e30 : (10 : Int) ^ Int.toNat 30 = 1000000000000000000000000000000 := by decide
    simp only [List.mem_cons, List.not_mem_nil, or_false] at m2
    rcases m2 with rfl | rfl | rfl | rfl | rfl | rfl | rfl | rfl | rfl
    · exact bQ.mk d4.wf (k _ _ _ (.inl (.int _)) ⟨fun z e => (by cases e), fun b hb => whole_out (by omega)⟩ d4)
    · exact bQ.mk d4.wf (k _ _ _ (.inl (.int _)) ⟨fun z e => (by cases e), fun b hb => whole_out (by omega)⟩ d4)
    · exact bQ.mk d4.wf (k _ _ _ (.inl (.bl _)) ⟨fun z e => (by cases e), fun b hb => rfl⟩ d4)
    · exact bQ.mk d4.wf (k _ _ _ (.inl (.bl _)) ⟨fun z e => (by cases e), fun b hb => rfl⟩ d4)
    · exact bQ.mk d4.wf (k _ _ _ (.inl .non) ⟨fun z e => (by cases e), fun b hb => rfl⟩ d4)
    · exact bQ.mk d4.wf (k _ (.str "0") _ (.inl (.str _)) ⟨fun z e => by cases e; exact ⟨by decide +kernel, by decide +kernel⟩, fun b hb => rfl⟩ d4)
    · exact bQ.mk d4.wf (k _ _ _ (.inl (.int _)) ⟨fun z e => (by cases e), fun b hb => whole_out (by rw [e30]; omega)⟩ d4)
    · exact bQ.mk d4.wf (k _ _ _ (.inl (.int _)) ⟨fun z e => (by cases e), fun b hb => whole_out (by omega)⟩ d4)
    · exact bQ.mk d4.wf (k _ (.list [.int 0]) _ (.inr ⟨y1, _, _, rfl, f1, .inl ⟨ey1, rfl⟩, .cons (.int _) .nil⟩) ⟨fun z e => (by cases e), fun b hb => rfl⟩ d4)

theorem NoWk.of {K : PySem.W.Frag} {H : Hp} {v : V} {d : PyData} (h : Dp K H v d) (b : isWorkD d = false) (s : ∀ ds, d = .tuple ds → ∀ z, PyData.str z ∈ ds → z.length ≤ 1000000 ∧ sOk z) : NoWk K H v := .inl ⟨d, h, s, b⟩

structure Five (w : W5) (F a : Addr) (H : Hp) (xs : List V) (b : Prop) : Prop where
  ex : ∃ x0 x1 x2 x3 x4 e0 e1 e2 e3 e4, xs = [x0, x1, x2, x3, x4] ∧ Elt F a H x0 e0 ∧ Elt F a H x1 e1 ∧ Elt F a H x2 e2 ∧ Elt F a H x3 e3 ∧ Elt F a H x4 e4 ∧ SmE e0 ∧ SmE e1 ∧ SmE e2 ∧ SmE e3 ∧ SmE e4 ∧
    (w.g = none → e3 = .none) ∧ (w.g ≠ none → e3 ≠ .none) ∧ (b → isWorkD (.tuple [e0, e1, e2, e3, e4]) = false)
theorem wk_eq (a b r g p : PyData) : isWorkD (.tuple [a, b, r, g, p]) = (isNameD a && (isNameD b && isWholeD r 0 1000000000000) && grpD g p) := rfl
theorem grp_bad {g p : PyData} (h1 : g = .none → isWholeD p 0 0 = false) (h2 : g ≠ .none → (isNameD g && isWholeD p 0 1000000000) = false) : grpD g p = false := by
  by_cases h : g = .none
  · subst h
    exact h1 rfl
  · have := h2 h
    cases g <;> first | exact absurd rfl h | exact this
namespace Five
variable {w : W5} {F a : Addr} {H H' : Hp} {xs : List V} {b b' : Prop} {v : V} {d : PyData}
theorem keep (h : Five w F a H xs b) (s : ∀ y o, y ≠ F → y ≠ a → H y = some o → H' y = some o) : Five w F a H' xs b := by
  obtain ⟨x0, x1, x2, x3, x4, e0, e1, e2, e3, e4, q, p0, p1, p2, p3, p4, r⟩ := h.ex
  exact ⟨x0, x1, x2, x3, x4, e0, e1, e2, e3, e4, q, p0.keep s, p1.keep s, p2.keep s, p3.keep s, p4.keep s, r⟩
theorem init (ok : WkOk w) (nb : ¬ b) : Five w F a H (tupW w) b := by
  have sm : ∀ {z : Str}, NameS z → SmE (.str z) := fun q z' e => by
    cases e
    exact ⟨by have := q.len; omega, q.2⟩
  have si : ∀ n : Int, SmE (.int n) := fun n z e => by cases e
  have e0 : SmE .none := fun z e => by cases e
  cases q : w.g with
  | none =>
    refine ⟨_, _, _, optV w.g, _, _, _, _, .none, _, rfl, .inl (.str _), .inl (.str _), .inl (.int _), .inl ?_, .inl (.int _), sm ok.2.1, sm ok.2.2.1, si _, e0, si _, fun _ => rfl, fun n => absurd q n, fun h => absurd h nb⟩
    rw [q]
    exact .non
  | some z =>
    refine ⟨_, _, _, optV w.g, _, _, _, _, .str z, _, rfl, .inl (.str _), .inl (.str _), .inl (.int _), .inl ?_, .inl (.int _), sm ok.2.1, sm ok.2.2.1, si _, sm (ok.2.2.2 z q), si _, fun n => (by rw [q] at n; cases n), fun _ e => (by cases e), fun h => absurd h nb⟩
    rw [q]
    exact .str z
theorem set0 (h : Five w F a H xs b) (o : Elt F a H v d) (n : NoNm d) : Five w F a H (xs.set 0 v) b' := by
  obtain ⟨x0, x1, x2, x3, x4, e0, e1, e2, e3, e4, rfl, p0, p1, p2, p3, p4, s0, s1, s2, s3, s4, q1, q2, _⟩ := h.ex
  refine ⟨v, x1, x2, x3, x4, d, e1, e2, e3, e4, rfl, o, p1, p2, p3, p4, n.2.1, s1, s2, s3, s4, q1, q2, fun _ => ?_⟩
  rw [wk_eq, n.1, Bool.false_and, Bool.false_and]
theorem set1 (h : Five w F a H xs b) (o : Elt F a H v d) (n : NoNm d) : Five w F a H (xs.set 1 v) b' := by
  obtain ⟨x0, x1, x2, x3, x4, e0, e1, e2, e3, e4, rfl, p0, p1, p2, p3, p4, s0, s1, s2, s3, s4, q1, q2, _⟩ := h.ex
  refine ⟨x0, v, x2, x3, x4, e0, d, e2, e3, e4, rfl, p0, o, p2, p3, p4, s0, n.2.1, s2, s3, s4, q1, q2, fun _ => ?_⟩
  rw [wk_eq, n.1, Bool.false_and, Bool.and_false, Bool.false_and]
theorem set2 (h : Five w F a H xs b) (o : Elt F a H v d) (n : NoNum d 1000000000000) : Five w F a H (xs.set 2 v) b' := by
  obtain ⟨x0, x1, x2, x3, x4, e0, e1, e2, e3, e4, rfl, p0, p1, p2, p3, p4, s0, s1, s2, s3, s4, q1, q2, _⟩ := h.ex
  refine ⟨x0, x1, v, x3, x4, e0, e1, d, e3, e4, rfl, p0, p1, o, p3, p4, s0, s1, n.1, s3, s4, q1, q2, fun _ => ?_⟩
  rw [wk_eq, n.2 _ (Int.le_refl _), Bool.and_false, Bool.and_false, Bool.false_and]
theorem set3 (h : Five w F a H xs b) (o : Elt F a H v d) (n : NoNm d) (g : w.g ≠ none) : Five w F a H (xs.set 3 v) b' := by
  obtain ⟨x0, x1, x2, x3, x4, e0, e1, e2, e3, e4, rfl, p0, p1, p2, p3, p4, s0, s1, s2, s3, s4, q1, q2, _⟩ := h.ex
  refine ⟨x0, x1, x2, v, x4, e0, e1, e2, d, e4, rfl, p0, p1, p2, o, p4, s0, s1, s2, n.2.1, s4, fun e => absurd e g, fun _ => n.2.2, fun _ => ?_⟩
  rw [wk_eq, grp_bad (fun e => absurd e n.2.2) (fun _ => by rw [n.1, Bool.false_and]), Bool.and_false]
theorem set4 (h : Five w F a H xs b) (o : Elt F a H v d) (n : SmE d) (g1 : w.g = none → isWholeD d 0 0 = false) (g2 : w.g ≠ none → isWholeD d 0 1000000000 = false) : Five w F a H (xs.set 4 v) b' := by
  obtain ⟨x0, x1, x2, x3, x4, e0, e1, e2, e3, e4, rfl, p0, p1, p2, p3, p4, s0, s1, s2, s3, s4, q1, q2, _⟩ := h.ex
  refine ⟨x0, x1, x2, x3, v, e0, e1, e2, e3, d, rfl, p0, p1, p2, p3, o, s0, s1, s2, s3, n, q1, q2, fun _ => ?_⟩
  rw [wk_eq, grp_bad (fun e => ?_) (fun e => ?_), Bool.and_false]
  · by_cases q : w.g = none
    · exact g1 q
    · exact absurd e (q2 q)
  · by_cases q : w.g = none
    · exact absurd (q1 q) e
    · rw [g2 q, Bool.and_false]
theorem nowk {K : PySem.W.Frag} {p : Addr} (h : Five w F a H xs b) (hb : b) (e : H p = some (.tup xs)) : NoWk K H (.ref p) := by
  obtain ⟨x0, x1, x2, x3, x4, e0, e1, e2, e3, e4, rfl, p0, p1, p2, p3, p4, s0, s1, s2, s3, s4, q1, q2, q3⟩ := h.ex
  refine NoWk.of (.tup (.inl (.inl e)) (.cons p0.dp (.cons p1.dp (.cons p2.dp (.cons p3.dp (.cons p4.dp .nil)))))) (q3 hb) fun ds z y m => ?_
  cases z
  simp only [List.mem_cons, List.not_mem_nil, or_false] at m
  rcases m with m | m | m | m | m
  · exact s0 y m.symm
  · exact s1 y m.symm
  · exact s2 y m.symm
  · exact s3 y m.symm
  · exact s4 y m.symm
theorem put {o : HO} (h : Five w F a H xs b) : Five w F a (upd H F o) xs b := h.keep fun y u n _ e => by rw [upd_ne n]; exact e
theorem len (h : Five w F a H xs b) : xs.length = 5 := by
  obtain ⟨x0, x1, x2, x3, x4, e0, e1, e2, e3, e4, rfl, _⟩ := h.ex
  rfl
end Five

abbrev s__law_spoilt : Stmt := topS 33
abbrev N__law_spoilt : List Str := ["_law_state_here", "_law_told", "_law_way", "_law_places", "_law_some", "_law_found", "_law_place"]
theorem sc__law_spoilt : FnScope N__law_spoilt ["_law_state_here", "_law_told"] (defScope s__law_spoilt) := ⟨rfl, rfl, rfl, by decide +kernel, rfl, by decide +kernel, by decide +kernel⟩
def sp__law_spoilt (K : PySem.W.Frag) (c : Ad) : Sp := fun vs H Q E => arg2 (fun s v => ∃ a t w, s = .ref a ∧ v = .ref t ∧ SqT K H t (tupW w) ∧ WkOk w ∧ St2 H a ∧ Wf H ∧ ∀ v H', NoWk K H' v → Dr a H H' → Q v H') vs
theorem ok__law_spoilt {P : Program} {w : World} {K : PySem.W.Frag} {mg : Str → Option Value} {base : Heap} {c : Ad} (T : Txt K mg c) : Ok P w K mg base 5 "_law_spoilt" ["_law_state_here", "_law_told"] (sp__law_spoilt K c) := by
  refine okF T.f__law_spoilt sc__law_spoilt (fun vs H Q E h => ?_) (fun f cdv A outer sh H vs Q E hr h => ?_)
  · obtain ⟨s, v, rfl, h⟩ := arg2.ex h
    rfl
  · obtain ⟨s, v, rfl, h⟩ := arg2.ex h
    have tk : Takes (cxOf (L2.CX P w) P w K mg base N__law_spoilt "_law_spoilt" (defScope s__law_spoilt) f cdv A outer sh H (bE H E)) (fun cls d _ H' => bE H E cls d H') := takes_of rfl rfl rfl rfl
    refine ⟨_, pss_cons (ps_set (i := 2) sc__law_spoilt.nd rfl (.inl rfl) (pe_f (ok__law_digit (K := K) T) (hr.mono (by decide)) passL (pa_cons (lv 0) (pa_cons pe_int pa_nil))))
      (pss_cons (ps_set (i := 3) sc__law_spoilt.nd rfl (.inl rfl) (pe_slice (slU (K := K)) (pe_lst (pa_cons (pe_f (ok__law_digit (K := K) T) (hr.mono (by decide)) passL (pa_cons (lv 0) (pa_cons pe_int pa_nil))) (pa_cons (pe_f (ok__law_digit (K := K) T) (hr.mono (by decide)) passL (pa_cons (lv 0) (pa_cons pe_int pa_nil))) pa_nil))) po_none (po_someU (pe_op (opU_add (K := K)) pe_int (pe_f (ok__law_digit (K := K) T) (hr.mono (by decide)) passL (pa_cons (lv 0) (pa_cons pe_int pa_nil)))))))
      (pss_cons (ps_if (pt_cmpU (opU_eq (K := K) hr) (lv 2) pe_int (nomark _))
      (pss_cons (ps_set (i := 4) sc__law_spoilt.nd rfl (.inl rfl) (pe_lst (pa_cons (pe_slice (slU (K := K)) (lv 1) po_none (po_someU pe_int)) (pa_cons (pe_op (opU_add (K := K)) (lv 1) (pe_tup (pa_cons pe_int pa_nil))) (pa_cons (pe_callTy (callU_list (K := K) rfl) (by rfl) T.m_list (by decide +kernel) (pa_cons (lv 1) pa_nil)) (pa_cons pe_non (pa_cons (pe_ix (ixU (K := K)) (lv 1) pe_int (fun _ _ => rfl)) (pa_cons (pe_tup (pa_cons (lv 1) pa_nil)) (pa_cons pe_dnewK (pa_cons pe_int pa_nil))))))))))
      (pss_one (ps_ret (pe_ix (ixU (K := K)) (lv 4) (pe_f (ok__law_digit (K := K) T) (hr.mono (by decide)) passL (pa_cons (lv 0) (pa_cons (pe_callB (callU_len (K := K)) (by rfl) T.m_len (by decide +kernel) (pa_cons (lv 4) pa_nil)) pa_nil))) (fun _ _ => rfl))))) pss_nil)
      (pss_cons (ps_set (i := 5) sc__law_spoilt.nd rfl (.inl rfl) (pe_callTy (callU_list (K := K) rfl) (by rfl) T.m_list (by decide +kernel) (pa_cons (lv 1) pa_nil)))
      (pss_cons (ps_for (passes_of rfl) rfl (pi_listK (K := K) (lv 3)) (pg_name (i := 6) sc__law_spoilt.nd rfl (.inl rfl))
      (pss_one (ps_if (pt_cmpU (opU_in (K := K)) (lv 6) (pe_tup (pa_cons pe_int (pa_cons pe_int pa_nil))) (by rfl))
      (pss_one (ps_asg (pe_f (ok__law_no_name (K := K) T) hr passL (pa_cons (lv 0) pa_nil)) (pg_sub (lv 5) (lv 6) setU))) (pss_one (ps_if (pt_cmpU (opU_eq (K := K) hr) (lv 6) pe_int (nomark _))
      (pss_one (ps_asg (pe_f (ok__law_no_number (K := K) T) (hr.mono (by decide)) passL (pa_cons (lv 0) (pa_cons (pe_op opU_pow pe_int pe_int) pa_nil))) (pg_sub (lv 5) pe_int setU))) (pss_one (ps_if (PW.pt (pw_and (pt_cmpU (opU_eq (K := K) hr) (lv 6) pe_int (nomark _)) (pw_and1 (pt_cmpU opU_isnot (pe_ix (ixU (K := K)) (lv 1) pe_int (fun _ _ => rfl)) pe_non (nomark _)))))
      (pss_one (ps_asg (pe_f (ok__law_no_name (K := K) T) hr passL (pa_cons (lv 0) pa_nil)) (pg_sub (lv 5) pe_int setU))) (pss_one (ps_if (pt_cmpU opU_is (pe_ix (ixU (K := K)) (lv 1) pe_int (fun _ _ => rfl)) pe_non (nomark _))
      (pss_one (ps_asg (pe_ix (ixU (K := K)) (pe_lst (pa_cons pe_int (pa_cons (pe_op opU_pow pe_int pe_int) (pa_cons (pe_f (ok__law_no_number (K := K) T) (hr.mono (by decide)) passL (pa_cons (lv 0) (pa_cons (pe_op opU_pow pe_int pe_int) pa_nil))) pa_nil)))) (pe_f (ok__law_digit (K := K) T) (hr.mono (by decide)) passL (pa_cons (lv 0) (pa_cons pe_int pa_nil))) (fun _ _ => rfl)) (pg_sub (lv 5) pe_int setU))) (pss_one (ps_asg (pe_f (ok__law_no_number (K := K) T) (hr.mono (by decide)) passL (pa_cons (lv 0) (pa_cons (pe_op opU_pow pe_int pe_int) pa_nil))) (pg_sub (lv 5) pe_int setU))))))))))))
      (pss_one (ps_ret (pe_callTy (callU_tuple (K := K)) (by rfl) T.m_tuple (by decide +kernel) (pa_cons (lv 5) pa_nil)))))))), ?_⟩
    obtain ⟨a, t, w, rfl, rfl, hT, ok, s0, wf, k⟩ := h
    have d0 := Dr.refl s0 wf
    refine ⟨a, 10, rfl, rfl, d0.st, bas_lt (by decide) (by decide), d0.wf, fun r1 p1 q1 g1 l1 n1 => ?_⟩
    have d1 := d0.drawn (q := q1) n1
    generalize upd H a (stL p1 q1) = H1 at d1  ⊢
    refine ⟨a, 5, rfl, rfl, d1.st, bas_lt (by decide) (by decide), d1.wf, fun r2 p2 q2 g2 l2 n2 => ?_⟩
    have d2 := d1.drawn (q := q2) n2
    generalize upd H1 a (stL p2 q2) = H2 at d2  ⊢
    refine ⟨a, 5, rfl, rfl, d2.st, bas_lt (by decide) (by decide), d2.wf, fun r3 p3 q3 g3 l3 n3 => ?_⟩
    have d3 := d2.drawn (q := q3) n3
    generalize upd H2 a (stL p3 q3) = H3 at d3  ⊢
    refine ⟨line_of (show 2 ≤ 16777216 by decide), fun x1 nx1 => ?_⟩
    have nex1 := st_ne d3.st nx1
    have d4 := d3.new (p := x1) (o := .lst [.int r2, .int r3]) nx1 trivial
    have ex1 : (upd H3 x1 (.lst [.int r2, .int r3])) x1 = some (.lst [.int r2, .int r3]) := upd_same
    generalize upd H3 x1 (.lst [.int r2, .int r3]) = H4 at d4 ex1  ⊢
    refine ⟨a, 2, rfl, rfl, d4.st, bas_lt (by decide) (by decide), d4.wf, fun r5 p5 q5 g5 l5 n5 => ?_⟩
    have d5 := d4.drawn (q := q5) n5
    replace ex1 := (upd_ne (o := stL p5 q5) nex1).trans ex1
    generalize upd H4 a (stL p5 q5) = H5 at d5 ex1 ⊢
    refine .inl ⟨_, _, rfl, .inl (.inl ex1), fun x2 nx2 => ?_⟩
    have nex2 := st_ne d5.st nx2
    have d6 := d5.new (p := x2) (o := .lst (cutV [.int r2, .int r3] none (some (1 + r5)))) nx2 trivial
    have ex2 : (upd H5 x2 (.lst (cutV [.int r2, .int r3] none (some (1 + r5))))) x2 = some (.lst (cutV [.int r2, .int r3] none (some (1 + r5)))) := upd_same
    generalize upd H5 x2 (.lst (cutV [.int r2, .int r3] none (some (1 + r5)))) = H6 at d6 ex2 ⊢
    have hp1 : ∀ u ∈ cutV [V.int r2, V.int r3] none (some (1 + r5)), ∃ r : Int, u = .int r ∧ 0 ≤ r ∧ r < 5 := fun u hu => by
      have := cut_mem hu
      simp only [List.mem_cons, List.not_mem_nil, or_false] at this
      rcases this with rfl | rfl
      · exact ⟨_, rfl, g2, l2⟩
      · exact ⟨_, rfl, g3, l3⟩
    have hp2 : 0 < (cutV [V.int r2, V.int r3] none (some (1 + r5))).length := by
      obtain rfl | rfl : r5 = 0 ∨ r5 = 1 := by omega
      · exact Nat.lt_of_lt_of_eq Nat.one_pos (show 1 = (cutV [V.int r2, V.int r3] none (some (1 + 0))).length from rfl)
      · exact Nat.lt_of_lt_of_eq Nat.two_pos (show 2 = (cutV [V.int r2, V.int r3] none (some (1 + 1))).length from rfl)
    have hp3 : (cutV [V.int r2, V.int r3] none (some (1 + r5))).length ≤ 2 := cut_len (xs := [V.int r2, V.int r3])
    generalize cutV [V.int r2, V.int r3] none (some (1 + r5)) = pls at hp1 hp2 hp3 ex2
    have hT6 : SqT K H6 t (tupW w) := d6.tups s0 _ _ hT
    refine iteC (p := V.int r1 = V.int 0) (fun hw => ?_) (fun hw => ?_)
    · refine .inr ⟨_, _, rfl, hT6, (show ¬ (HT.sIx 5 0 none = 0 ∧ HT.sIx 5 5 (some 4) = 5) by decide), fun y1 ny1 => ?_⟩
      have d7 := d6.new (p := y1) (o := .tup (cutV (tupW w) none (some 4))) ny1 trivial
      have ey1 : (upd H6 y1 (.tup (cutV (tupW w) none (some 4)))) y1 = some (.tup (cutV (tupW w) none (some 4))) := upd_same
      generalize upd H6 y1 (.tup (cutV (tupW w) none (some 4))) = H7 at d7 ey1 ⊢
      refine ⟨line_of (show 1 ≤ 16777216 by decide), fun y2 ny2 => ?_⟩
      have ney2 := st_ne d7.st ny2
      have d8 := d7.new (p := y2) (o := .tup [.int 0]) ny2 trivial
      replace ey1 := same_new (o := .tup [.int 0]) ny2 _ _ ey1
      have ey2 : (upd H7 y2 (.tup [.int 0])) y2 = some (.tup [.int 0]) := upd_same
      generalize upd H7 y2 (.tup [.int 0]) = H8 at d8 ey2 ey1 ⊢
      have hT8 := d8.tups (K := K) s0 _ _ hT
      refine .inr ⟨_, _, _, _, rfl, rfl, hT8, .inl (.inl ey2), (fun z => by cases z), line_of (show 6 ≤ 16777216 by decide), (fun z => by cases z), fun _ y3 ny3 => ?_⟩
      have d9 := d8.new (p := y3) (o := .tup (tupW w ++ [.int 0])) ny3 trivial
      replace ey1 := same_new (o := .tup (tupW w ++ [.int 0])) ny3 _ _ ey1
      have ey3 : (upd H8 y3 (.tup (tupW w ++ [.int 0]))) y3 = some (.tup (tupW w ++ [.int 0])) := upd_same
      generalize upd H8 y3 (.tup (tupW w ++ [.int 0])) = H9 at d9 ey1 ey3 ⊢
      refine .inl ⟨_, .inr (d9.tups (K := K) s0 _ _ hT), fun y4 ny4 => ?_⟩
      have dA := d9.new (p := y4) (o := .lst (tupW w)) ny4 trivial
      replace ey1 := same_new (o := .lst (tupW w)) ny4 _ _ ey1
      replace ey3 := same_new (o := .lst (tupW w)) ny4 _ _ ey3
      have ey4 : (upd H9 y4 (.lst (tupW w))) y4 = some (.lst (tupW w)) := upd_same
      have ney4 := st_ne d9.st ny4
      generalize upd H9 y4 (.lst (tupW w)) = HA at dA ey1 ey3 ey4 ⊢
      refine ⟨_, _, .inr (dA.tups (K := K) s0 _ _ hT), rfl, ?_⟩
      refine ⟨line_of (show 1 ≤ 16777216 by decide), fun y5 ny5 => ?_⟩
      have ney5 := st_ne dA.st ny5
      have dB := dA.new (p := y5) (o := .tup [.ref t]) ny5 trivial
      replace ey1 := same_new (o := .tup [.ref t]) ny5 _ _ ey1
      replace ey3 := same_new (o := .tup [.ref t]) ny5 _ _ ey3
      replace ey4 := same_new (o := .tup [.ref t]) ny5 _ _ ey4
      have ey5 : (upd HA y5 (.tup [.ref t])) y5 = some (.tup [.ref t]) := upd_same
      generalize upd HA y5 (.tup [.ref t]) = HB at dB ey5 ey1 ey3 ey4 ⊢
      refine fun y6 ny6 => ?_
      have dC := dB.new (p := y6) (o := .dK []) ny6 trivial
      have ney1 : y1 ≠ a := st_ne d6.st ny1
      have ney3 : y3 ≠ a := st_ne d8.st ny3
      have ney6 : y6 ≠ a := st_ne dB.st ny6
      replace ey1 := same_new (o := .dK []) ny6 _ _ ey1
      replace ey3 := same_new (o := .dK []) ny6 _ _ ey3
      replace ey4 := same_new (o := .dK []) ny6 _ _ ey4
      replace ey5 := same_new (o := .dK []) ny6 _ _ ey5
      have ey6 : (upd HB y6 (.dK [])) y6 = some (.dK []) := upd_same
      generalize upd HB y6 (.dK []) = HC at dC ey1 ey3 ey4 ey5 ey6 ⊢
      refine ⟨line_of (show 8 ≤ 16777216 by decide), fun y7 ny7 => ?_⟩
      have ney7 := st_ne dC.st ny7
      have dD := dC.new (p := y7) (o := .lst [.ref y1, .ref y3, .ref y4, .non, .str w.n, .ref y5, .ref y6, .int 5]) ny7 trivial
      replace ey1 := same_new (o := .lst [.ref y1, .ref y3, .ref y4, .non, .str w.n, .ref y5, .ref y6, .int 5]) ny7 _ _ ey1
      replace ey3 := same_new (o := .lst [.ref y1, .ref y3, .ref y4, .non, .str w.n, .ref y5, .ref y6, .int 5]) ny7 _ _ ey3
      replace ey4 := same_new (o := .lst [.ref y1, .ref y3, .ref y4, .non, .str w.n, .ref y5, .ref y6, .int 5]) ny7 _ _ ey4
      replace ey5 := same_new (o := .lst [.ref y1, .ref y3, .ref y4, .non, .str w.n, .ref y5, .ref y6, .int 5]) ny7 _ _ ey5
      replace ey6 := same_new (o := .lst [.ref y1, .ref y3, .ref y4, .non, .str w.n, .ref y5, .ref y6, .int 5]) ny7 _ _ ey6
      have ey7 : (upd HC y7 (.lst [.ref y1, .ref y3, .ref y4, .non, .str w.n, .ref y5, .ref y6, .int 5])) y7 = some (.lst [.ref y1, .ref y3, .ref y4, .non, .str w.n, .ref y5, .ref y6, .int 5]) := upd_same
      generalize upd HC y7 (.lst [.ref y1, .ref y3, .ref y4, .non, .str w.n, .ref y5, .ref y6, .int 5]) = HD at dD ey7 ey1 ey3 ey4 ey5 ey6 ⊢
      refine .inl ⟨_, .inl (.inl (.inl ey7)), ?_⟩
      refine ⟨a, 8, rfl, rfl, dD.st, bas_lt (by decide) (by decide), dD.wf, fun rF pF qF gF lF nF => ?_⟩
      have dF := dD.drawn (q := qF) nF
      replace ey1 := (upd_ne (o := stL pF qF) ney1).trans ey1
      replace ey3 := (upd_ne (o := stL pF qF) ney3).trans ey3
      replace ey4 := (upd_ne (o := stL pF qF) ney4).trans ey4
      replace ey5 := (upd_ne (o := stL pF qF) ney5).trans ey5
      replace ey6 := (upd_ne (o := stL pF qF) ney6).trans ey6
      replace ey7 := (upd_ne (o := stL pF qF) ney7).trans ey7
      generalize upd HD a (stL pF qF) = HF at dF ey1 ey3 ey4 ey5 ey6 ey7 ⊢
      obtain ⟨v2, hv2, m2⟩ := at_lt (xs := [V.ref y1, .ref y3, .ref y4, .non, .str w.n, .ref y5, .ref y6, .int 5]) gF (by exact lF)
      refine ⟨_, v2, .inl (.inl (.inl ey7)), hv2, ?_⟩
      have hTF := dF.tups (K := K) s0 _ _ hT
      simp only [List.mem_cons, List.not_mem_nil, or_false] at m2
      rcases m2 with rfl | rfl | rfl | rfl | rfl | rfl | rfl | rfl
      · refine bQ.mk dF.wf (k _ _ (NoWk.of (d := .tuple [.str w.n, .str w.h, .int w.r, optD w.g]) (.tup (.inl (.inl ey1)) (.cons (.str _) (.cons (.str _) (.cons (.int _) (.cons (dp_opt _) .nil))))) rfl fun ds e z m => ?_) dF)
        cases e
        exact ok.sm _ rfl z (by simpa using m)
      · refine bQ.mk dF.wf (k _ _ (NoWk.of (d := .tuple [.str w.n, .str w.h, .int w.r, optD w.g, .int w.p, .int 0]) (.tup (.inl (.inl ey3)) (.cons (.str _) (.cons (.str _) (.cons (.int _) (.cons (dp_opt _) (.cons (.int _) (.cons (.int _) .nil))))))) rfl fun ds e z m => ?_) dF)
        cases e
        exact ok.sm _ rfl z (by simpa using m)
      · exact bQ.mk dF.wf (k _ _ (NoWk.of (d := .list [.str w.n, .str w.h, .int w.r, optD w.g, .int w.p]) (.lst (.inl (.inl ey4)) (.cons (.str _) (.cons (.str _) (.cons (.int _) (.cons (dp_opt _) (.cons (.int _) .nil)))))) rfl fun ds e z m => (by cases e)) dF)
      · exact bQ.mk dF.wf (k _ _ (NoWk.of .non rfl fun ds e z m => (by cases e)) dF)
      · exact bQ.mk dF.wf (k _ _ (NoWk.of (.str _) rfl fun ds e z m => (by cases e)) dF)
      · refine bQ.mk dF.wf (k _ _ (NoWk.of (d := .tuple [workD w]) (.tup (.inl (.inl ey5)) (.cons (work_dp hTF) .nil)) rfl fun ds e z m => ?_) dF)
        cases e
        simp [workD] at m
      · exact bQ.mk dF.wf (k _ _ (.inr (isi_ty (b := false) (.base (.dK ey6)) (by decide +kernel))) dF)
      · exact bQ.mk dF.wf (k _ _ (NoWk.of (.int 5) rfl fun ds e z m => (by cases e)) dF)
    · refine .inl ⟨_, .inr hT6, fun F nF => ?_⟩
      have nF0 : H F = none := d6.free nF
      have neF := st_ne d6.st nF
      have nFx : F ≠ x2 := fun e => by
        subst e
        rw [nF] at ex2
        cases ex2
      have d7 := d6.new (p := F) (o := .lst (tupW w)) nF trivial
      have eF : (upd H6 F (.lst (tupW w))) F = some (.lst (tupW w)) := upd_same
      replace ex2 := same_new (o := .lst (tupW w)) nF _ _ ex2
      generalize upd H6 F (.lst (tupW w)) = H7 at d7 eF ex2 ⊢
      refine ⟨x2, rfl, ⟨_, .inl (.inl ex2)⟩, for_list (K := K) (a := x2) (xs := pls) (fun j σ H'' => ∃ y xs, σ = [some (.ref a), some (.ref t), some (.int r1), some (.ref x2), none, some (.ref F), y] ∧ H'' F = some (.lst xs) ∧ Five w F a H'' xs (0 < j) ∧ H'' x2 = some (.lst pls) ∧ Dr a H H'') ⟨_, _, rfl, eF, .init ok (by omega), ex2, d7⟩ (fun j σ H'' _ h => ?_) (fun j x σ H'' hx h => ?_) (fun σ H'' h => ?_)⟩
      · obtain ⟨_, _, _, _, _, h, _⟩ := h
        exact .inl (.inl h)
      · obtain ⟨y, xs, rfl, eF, hF, ex2, d⟩ := h
        obtain ⟨r, rfl, r0, r1'⟩ := hp1 x (List.mem_of_getElem? hx)
        have fin : ∀ {H9 : Hp} {ys : List V} {r : Int}, Dr a H'' H9 → Five w F a H9 ys (0 < j + 1) → ∃ y xs, [some (V.ref a), some (.ref t), some (.int r1), some (.ref x2), none, some (.ref F), some (.int r)] = [some (.ref a), some (.ref t), some (.int r1), some (.ref x2), none, some (.ref F), y] ∧ (upd H9 F (.lst ys)) F = some (.lst xs) ∧ Five w F a (upd H9 F (.lst ys)) xs (0 < j + 1) ∧ (upd H9 F (.lst ys)) x2 = some (.lst pls) ∧ Dr a H (upd H9 F (.lst ys)) := fun {H9 ys r} dd five => by
          refine ⟨_, ys, rfl, upd_same, five.put, ?_, (d.trans dd).put nF0 (dd.kp _ _ neF eF) (fun _ z => by cases z) trivial neF⟩
          rw [upd_ne nFx.symm]
          exact dd.kp _ _ nex2 ex2
        have kp : ∀ {H9 : Hp}, Dr a H'' H9 → Five w F a H9 xs (0 < j) := fun dd => hF.keep fun y o _ na e => dd.kp y o na e
        have ln := hF.len
        have i0 : inV (V.int 0) [V.int 0, V.int 1] = true := by decide +kernel
        have i1 : inV (V.int 1) [V.int 0, V.int 1] = true := by decide +kernel
        have i2 : inV (V.int 2) [V.int 0, V.int 1] = false := by decide +kernel
        have i3 : inV (V.int 3) [V.int 0, V.int 1] = false := by decide +kernel
        have i4 : inV (V.int 4) [V.int 0, V.int 1] = false := by decide +kernel
        refine (fun (goal : ∀ z, H'' z = none → _) => ⟨line_of (show 2 ≤ 16777216 by decide), goal⟩) fun z nz => ?_
        have dH := (Dr.refl d.st d.wf).new (p := z) (o := .tup [.int 0, .int 1]) nz trivial
        have ez : (upd H'' z (.tup [.int 0, .int 1])) z = some (.tup [.int 0, .int 1]) := upd_same
        generalize upd H'' z (.tup [.int 0, .int 1]) = H8 at dH ez ⊢
        have eF8 := dH.kp _ _ neF eF
        have hT8 := (d.trans dH).tups (K := K) s0 _ _ hT
        refine ⟨_, .inr (.inl (.inl ez)), rfl, rfl, ?_⟩
        have num : ∀ {e : PyData} {v : V} {H9 : Hp}, Odd H8 H9 v e → NoNum e (10 ^ Int.toNat 9) → Dr a H8 H9 → w.g ≠ none → Five w F a H9 (xs.set 4 v) (0 < j + 1) := fun {e v H9} od nn d9 g => by
          rw [e9] at nn
          exact (kp (dH.trans d9)).set4 (od.elt eF8 dH.st) nn.1 (fun q => absurd q g) (fun _ => nn.2 _ (Int.le_refl _))
        obtain rfl | rfl | rfl | rfl | rfl : r = 0 ∨ r = 1 ∨ r = 2 ∨ r = 3 ∨ r = 4 := by omega
        · rw [i0]
          refine ⟨a, rfl, dH.st, dH.wf, fun v e H9 od nn d9 => ?_⟩
          exact ⟨xs, 0, (dH.trans d9).kp _ _ neF eF, by rw [ln]; rfl, fin (dH.trans d9) ((kp (dH.trans d9)).set0 (od.elt eF8 dH.st) nn)⟩
        · rw [i1]
          refine ⟨a, rfl, dH.st, dH.wf, fun v e H9 od nn d9 => ?_⟩
          exact ⟨xs, 1, (dH.trans d9).kp _ _ neF eF, by rw [ln]; rfl, fin (dH.trans d9) ((kp (dH.trans d9)).set1 (od.elt eF8 dH.st) nn)⟩
        · rw [i2]
          refine ⟨⟨by decide, by decide, by decide⟩, ?_⟩
          refine ⟨a, _, rfl, rfl, by decide, by decide, dH.st, dH.wf, fun v e H9 od nn d9 => ?_⟩
          rw [e12] at nn
          exact ⟨xs, 2, (dH.trans d9).kp _ _ neF eF, by rw [ln]; rfl, fin (dH.trans d9) ((kp (dH.trans d9)).set2 (od.elt eF8 dH.st) nn)⟩
        · rw [i3]
          refine ⟨_, _, .inr hT8, rfl, ?_⟩
          refine iteB (c := true != decide (optV w.g = V.non)) (fun h => ?_) (fun h => ?_)
          · have gs : w.g ≠ none := fun q => by
              rw [q] at h
              cases h
            refine ⟨a, rfl, dH.st, dH.wf, fun v e H9 od nn d9 => ?_⟩
            exact ⟨xs, 3, (dH.trans d9).kp _ _ neF eF, by rw [ln]; rfl, fin (dH.trans d9) ((kp (dH.trans d9)).set3 (od.elt eF8 dH.st) nn gs)⟩
          · refine ⟨_, _, .inr hT8, rfl, ?_⟩
            have gn : w.g = none := by
              cases q : w.g with
              | none => rfl
              | some z =>
                rw [q] at h
                cases h
            refine iteB (c := false != decide (optV w.g = V.non)) (fun _ => ?_) (fun h => ?_)
            · refine ⟨⟨by decide, by decide, by decide⟩, ?_⟩
              refine ⟨⟨by decide, by decide, by decide⟩, ?_⟩
              refine ⟨a, _, rfl, rfl, by decide, by decide, dH.st, dH.wf, fun v e H9 od nn d9' => ?_⟩
              rw [e9] at nn
              have d9 := Dr.refl d9'.st d9'.wf
              refine ⟨line_of (show 3 ≤ 16777216 by decide), fun y ny => ?_⟩
              have ney := st_ne d9.st ny
              have dM := d9.new (p := y) (o := .lst [.int 1, .int (10 ^ Int.toNat 9), v]) ny trivial
              have ey : (upd H9 y (.lst [.int 1, .int (10 ^ Int.toNat 9), v])) y = some (.lst [.int 1, .int (10 ^ Int.toNat 9), v]) := upd_same
              generalize upd H9 y (.lst [.int 1, .int (10 ^ Int.toNat 9), v]) = HM at dM ey  ⊢
              refine ⟨a, 3, rfl, rfl, dM.st, bas_lt (by decide) (by decide), dM.wf, fun rN pN qN gN lN nN => ?_⟩
              have dN := dM.drawn (q := qN) nN
              replace ey := (upd_ne (o := stL pN qN) ney).trans ey
              generalize upd HM a (stL pN qN) = HN at dN ey ⊢
              obtain ⟨v4, hv4, m4⟩ := at_lt (xs := [V.int 1, .int (10 ^ Int.toNat 9), v]) gN (by exact lN)
              refine ⟨_, v4, .inl (.inl (.inl ey)), hv4, ?_⟩
              obtain ⟨e4, el4, sm4, w0⟩ : ∃ e4, Elt F a HN v4 e4 ∧ SmE e4 ∧ isWholeD e4 0 0 = false := by
                simp only [List.mem_cons, List.not_mem_nil, or_false] at m4
                rcases m4 with rfl | rfl | rfl
                · exact ⟨.int 1, .inl (.int _), fun z e => (by cases e), whole_out (by omega)⟩
                · exact ⟨.int _, .inl (.int _), fun z e => (by cases e), whole_out (by rw [e9]; omega)⟩
                · exact ⟨e, (od.elt eF8 dH.st).keep fun y o _ na eo => dN.kp y o na eo, nn.1, nn.2 0 (by decide)⟩
              have tot := dH.trans (d9'.trans dN)
              exact ⟨xs, 4, tot.kp _ _ neF eF, by rw [ln]; rfl, fin tot ((kp tot).set4 el4 sm4 (fun _ => w0) (fun q => absurd gn q))⟩
            · rw [gn] at h
              cases h
        · rw [i4]
          refine ⟨_, _, .inr hT8, rfl, ?_⟩
          refine iteB (c := false != decide (optV w.g = V.non)) (fun h => ?_) (fun h => ?_)
          · have gn : w.g = none := by
              cases q : w.g with
              | none => rfl
              | some z =>
                rw [q] at h
                cases h
            refine ⟨⟨by decide, by decide, by decide⟩, ?_⟩
            refine ⟨⟨by decide, by decide, by decide⟩, ?_⟩
            refine ⟨a, _, rfl, rfl, by decide, by decide, dH.st, dH.wf, fun v e H9 od nn d9' => ?_⟩
            rw [e9] at nn
            have d9 := Dr.refl d9'.st d9'.wf
            refine ⟨line_of (show 3 ≤ 16777216 by decide), fun y ny => ?_⟩
            have ney := st_ne d9.st ny
            have dM := d9.new (p := y) (o := .lst [.int 1, .int (10 ^ Int.toNat 9), v]) ny trivial
            have ey : (upd H9 y (.lst [.int 1, .int (10 ^ Int.toNat 9), v])) y = some (.lst [.int 1, .int (10 ^ Int.toNat 9), v]) := upd_same
            generalize upd H9 y (.lst [.int 1, .int (10 ^ Int.toNat 9), v]) = HM at dM ey  ⊢
            refine ⟨a, 3, rfl, rfl, dM.st, bas_lt (by decide) (by decide), dM.wf, fun rN pN qN gN lN nN => ?_⟩
            have dN := dM.drawn (q := qN) nN
            replace ey := (upd_ne (o := stL pN qN) ney).trans ey
            generalize upd HM a (stL pN qN) = HN at dN ey ⊢
            obtain ⟨v4, hv4, m4⟩ := at_lt (xs := [V.int 1, .int (10 ^ Int.toNat 9), v]) gN (by exact lN)
            refine ⟨_, v4, .inl (.inl (.inl ey)), hv4, ?_⟩
            obtain ⟨e4, el4, sm4, w0⟩ : ∃ e4, Elt F a HN v4 e4 ∧ SmE e4 ∧ isWholeD e4 0 0 = false := by
              simp only [List.mem_cons, List.not_mem_nil, or_false] at m4
              rcases m4 with rfl | rfl | rfl
              · exact ⟨.int 1, .inl (.int _), fun z e => (by cases e), whole_out (by omega)⟩
              · exact ⟨.int _, .inl (.int _), fun z e => (by cases e), whole_out (by rw [e9]; omega)⟩
              · exact ⟨e, (od.elt eF8 dH.st).keep fun y o _ na eo => dN.kp y o na eo, nn.1, nn.2 0 (by decide)⟩
            have tot := dH.trans (d9'.trans dN)
            exact ⟨xs, 4, tot.kp _ _ neF eF, by rw [ln]; rfl, fin tot ((kp tot).set4 el4 sm4 (fun _ => w0) (fun q => absurd gn q))⟩
          · have gs : w.g ≠ none := fun q => by
              rw [q] at h
              cases h
            refine ⟨⟨by decide, by decide, by decide⟩, ?_⟩
            refine ⟨a, _, rfl, rfl, by decide, by decide, dH.st, dH.wf, fun v e H9 od nn d9 => ?_⟩
            exact ⟨xs, 4, (dH.trans d9).kp _ _ neF eF, by rw [ln]; rfl, fin (dH.trans d9) (num od nn d9 gs)⟩
      · obtain ⟨y, xs, rfl, eF, hF, ex2, d⟩ := h
        refine ⟨_, .inl ⟨.inl (.inl eF), fun p np => ?_⟩⟩
        have dZ := d.new (p := p) (o := .tup xs) np trivial
        exact bQ.mk dZ.wf (k _ _ ((hF.keep fun y o _ _ e => same_new np _ _ e).nowk hp2 upd_same) dZ)

theorem _root_.R.Dr.ofSame {a : Addr} {H H' : Hp} (s : Same H H') (t : St2 H a) (w : Wf H') : Dr a H H' := by
  obtain ⟨p, q, e, h⟩ := t
  exact ⟨fun b o _ e => s b o e, ⟨p, q, s _ _ e, h⟩, w⟩

abbrev s__law_refused : Stmt := topS 34
abbrev N__law_refused : List Str := ["_law_thing", "_law_found", "e", "_law_others"]
theorem sc__law_refused : FnScope N__law_refused ["_law_thing"] (defScope s__law_refused) := ⟨rfl, rfl, rfl, by decide +kernel, rfl, by decide +kernel, by decide +kernel⟩
def sp__law_refused (K : PySem.W.Frag) (c : Ad) : Sp := fun vs H Q E => arg1 (fun v => NoWk K H v ∧ Wf H ∧ Q (.bl true) H) vs
theorem ok__law_refused {P : Program} {w : World} {K : PySem.W.Frag} {mg : Str → Option Value} {base : Heap} {c : Ad} (T : Txt K mg c) : Ok P w K mg base 5 "_law_refused" ["_law_thing"] (sp__law_refused K c) := by
  refine okF T.f__law_refused sc__law_refused (fun vs H Q E h => ?_) (fun f cdv A outer sh H vs Q E hr h => ?_)
  · obtain ⟨v, rfl, h⟩ := arg1.ex h
    rfl
  · obtain ⟨v, rfl, h⟩ := arg1.ex h
    have tk : Takes (cxOf (L2.CX P w) P w K mg base N__law_refused "_law_refused" (defScope s__law_refused) f cdv A outer sh H (bE H E)) (fun cls d _ H' => bE H E cls d H') := takes_of rfl rfl rfl rfl
    refine ⟨_, pss_cons (ps_set (i := 1) sc__law_refused.nd rfl (.inl rfl) pe_non)
      (pss_cons (ps_tryA (K := K) T.x_LentError sc__law_refused.nd (i := 2) rfl tk (fun W pn xe tk pO => pss_one (ps_expr (pe_fS (ok_work_of (K := K) T) hr tk (pa_cons (lv 0) pa_nil)))) (fun a oe cls d pn hz hf => pss_cons (ps_set (i := 3) sc__law_refused.nd rfl (.inl rfl) (pe_lst (pa_cons (pe_callB (callU_isX (K := K) hz hf) (by rfl) T.m_isinstance (by decide +kernel) (pa_cons (lv 2) (pa_cons (pe_xc T.x_IsIn) pa_nil))) (pa_cons (pe_callB (callU_isX (K := K) hz hf) (by rfl) T.m_isinstance (by decide +kernel) (pa_cons (lv 2) (pa_cons (pe_xc T.x_NoGroup) pa_nil))) (pa_cons (pe_callB (callU_isX (K := K) hz hf) (by rfl) T.m_isinstance (by decide +kernel) (pa_cons (lv 2) (pa_cons (pe_xc T.x_NoHouse) pa_nil))) (pa_cons (pe_callB (callU_isX (K := K) hz hf) (by rfl) T.m_isinstance (by decide +kernel) (pa_cons (lv 2) (pa_cons (pe_xc T.x_NoMoment) pa_nil))) pa_nil))))))
      (pss_cons (ps_set (i := 3) sc__law_refused.nd rfl (.inl rfl) (pe_op (opU_add (K := K)) (lv 3) (pe_lst (pa_cons (pe_callB (callU_isX (K := K) hz hf) (by rfl) T.m_isinstance (by decide +kernel) (pa_cons (lv 2) (pa_cons (pe_xc T.x_NoRow) pa_nil))) (pa_cons (pe_callB (callU_isX (K := K) hz hf) (by rfl) T.m_isinstance (by decide +kernel) (pa_cons (lv 2) (pa_cons (pe_xc T.x_NoRule) pa_nil))) (pa_cons (pe_callB (callU_isX (K := K) hz hf) (by rfl) T.m_isinstance (by decide +kernel) (pa_cons (lv 2) (pa_cons (pe_xc T.x_NoTry) pa_nil))) pa_nil))))))
      (pss_one (ps_set (i := 1) sc__law_refused.nd rfl (.inl rfl) (pe_andU (K := K) (pe_callB (callU_isX (K := K) hz hf) (by rfl) T.m_isinstance (by decide +kernel) (pa_cons (lv 2) (pa_cons (pe_xc T.x_NoWork) pa_nil))) (pe_andU (K := K) (pe_callB (callU_isX (K := K) hz hf) (by rfl) T.m_isinstance (by decide +kernel) (pa_cons (lv 2) (pa_cons (pe_ty "ValueError" T.m_ValueError) pa_nil))) (pe_one (pe_cmpR (opU_notin (K := K)) pe_bl (lv 3) (by rfl))))))))))
      (pss_one (ps_ret (pe_cmpR opU_is (lv 1) pe_bl (nomark _))))), ?_⟩
    obtain ⟨hn, wf, k⟩ := h
    refine ⟨wf, .inr ⟨hn, ?_⟩⟩
    refine ⟨true, exc_under T.x_NoWork T.x_LentError T.u_NoWork_LentError, fun _ e ne => ?_, fun z => by cases z⟩
    have cc := T.x_NoWork.cc
    have ss := T.u_NoWork_NoWork
    refine ⟨_, rfl, rfl, cc, _, _, _, rfl, fun _ h => h, exc_is T.x_NoWork ss T.x_IsIn T.u_NoWork_IsIn, ?_⟩
    refine ⟨_, rfl, rfl, cc, _, _, _, rfl, fun _ h => h, exc_is T.x_NoWork ss T.x_NoGroup T.u_NoWork_NoGroup, ?_⟩
    refine ⟨_, rfl, rfl, cc, _, _, _, rfl, fun _ h => h, exc_is T.x_NoWork ss T.x_NoHouse T.u_NoWork_NoHouse, ?_⟩
    refine ⟨_, rfl, rfl, cc, _, _, _, rfl, fun _ h => h, exc_is T.x_NoWork ss T.x_NoMoment T.u_NoWork_NoMoment, ?_⟩
    refine ⟨line_of (show 4 ≤ 16777216 by decide), fun q1 nq1 => ?_⟩
    refine ⟨_, rfl, rfl, cc, _, _, _, rfl, fun _ h => h, exc_is T.x_NoWork ss T.x_NoRow T.u_NoWork_NoRow, ?_⟩
    refine ⟨_, rfl, rfl, cc, _, _, _, rfl, fun _ h => h, exc_is T.x_NoWork ss T.x_NoRule T.u_NoWork_NoRule, ?_⟩
    refine ⟨_, rfl, rfl, cc, _, _, _, rfl, fun _ h => h, exc_is T.x_NoWork ss T.x_NoTry T.u_NoWork_NoTry, ?_⟩
    refine ⟨line_of (show 3 ≤ 16777216 by decide), fun q2 nq2 => ?_⟩
    refine .inl ⟨_, _, _, _, rfl, rfl, (upd_ne (ne_of_none upd_same nq2)).trans upd_same, upd_same, line_of (show 7 ≤ 16777216 by decide), fun q3 nq3 => ?_⟩
    refine ⟨_, rfl, rfl, cc, _, _, _, rfl, fun _ h => h, exc_is T.x_NoWork ss T.x_NoWork T.u_NoWork_NoWork, ?_⟩
    refine ⟨_, rfl, rfl, cc, _, _, _, rfl, fun _ h => h, exc_ve T.x_NoWork, ?_⟩
    refine ⟨_, .inl (.inl (.inl upd_same)), rfl, rfl, ?_⟩
    exact bQ.same wf ((same_new nq1).trans ((same_new nq2).trans (same_new nq3))) k

def cs_Grouped_Loose (c : Ad) (C : Addr) : Prop := C = c.Grouped ∨ C = c.Loose
theorem okc_Grouped_Loose {K : PySem.W.Frag} {mg : Str → Option Value} {c : Ad} (T : Txt K mg c) : ∀ C, cs_Grouped_Loose c C → Cls K C := fun C h => by
  rcases h with e | e
  · subst e
    exact T.o_Grouped.cl
  · subst e
    exact T.o_Loose.cl
theorem okm_Grouped_Loose_told {P : Program} {w : World} {K : PySem.W.Frag} {mg : Str → Option Value} {base : Heap} {c : Ad} (T : Txt K mg c) : ∀ C, cs_Grouped_Loose c C → OkM P w K mg base 1 C "told" ["self"] (sp_Work_told K c C) := fun C h => ok_Work_told T (by
  rcases h with e | e
  · exact (.inr e)
  · exact (.inl e))
abbrev s_law : Stmt := topS 35
abbrev N_law : List Str := ["_law_script", "_law_k", "_law_state_here", "_law_grouped", "_law_told"]
theorem sc_law : FnScope N_law ["_law_script"] (defScope s_law) := ⟨rfl, rfl, rfl, by decide +kernel, rfl, by decide +kernel, by decide +kernel⟩
def sp_law (K : PySem.W.Frag) : Sp := fun vs H Q E => arg1 (fun s => ∃ ns, ScrL K H s ns ∧ Wf H ∧ ∀ H', Q (.bl true) H') vs
theorem ok_law {P : Program} {w : World} {K : PySem.W.Frag} {mg : Str → Option Value} {base : Heap} {f : Addr} {fd : FuncData} (F : Fun K "law" "law" s_law f fd) {c : Ad} (T : Txt K mg c) : FnOk P w K mg base CX0 6 f fd ["_law_script"] (sp_law K) := by
  refine F.ok sc_law (fun vs H Q E h => ?_) (fun cdv A outer sh H vs Q E hr h => ?_)
  · obtain ⟨s, rfl, h⟩ := arg1.ex h
    rfl
  · obtain ⟨s, rfl, h⟩ := arg1.ex h
    refine ⟨_, pss_cons (ps_for (PassesOwn.never) rfl (pi_range1 (by rfl) T.m_range (pa_cons (pe_op (opU_add (K := K)) pe_int (pe_callB (callU_min2 rfl) (by rfl) T.m_min (by decide +kernel) (pa_cons (pe_callB (callU_len (K := K)) (by rfl) T.m_len (by decide +kernel) (pa_cons (lv 0) pa_nil)) (pa_cons pe_int pa_nil)))) pa_nil)) (pg_name (i := 1) sc_law.nd rfl (.inl rfl))
      (pss_cons (ps_set (i := 2) sc_law.nd rfl (.inl rfl) (pe_f (ok__law_state (K := K) T) (hr.mono (by decide)) passL (pa_cons (pe_f (ok__law_cell_at (K := K) T) (hr.mono (by decide)) passL (pa_cons (lv 0) (pa_cons (lv 1) pa_nil))) (pa_cons (lv 1) pa_nil))))
      (pss_cons (ps_set (i := 3) sc_law.nd rfl (.inl rfl) (pe_cmpR (opU_eq (K := K) hr) (pe_f (ok__law_digit (K := K) T) (hr.mono (by decide)) passL (pa_cons (lv 2) (pa_cons pe_int pa_nil))) pe_int (nomark _)))
      (pss_cons (ps_set (i := 4) sc_law.nd rfl (.inl rfl) (pe_tup (pa_cons (pe_f (ok__law_name (K := K) T) (hr.mono (by decide)) passL (pa_cons (lv 2) pa_nil)) (pa_cons (pe_f (ok__law_name (K := K) T) (hr.mono (by decide)) passL (pa_cons (lv 2) pa_nil)) (pa_cons (pe_f (ok__law_digit (K := K) T) (hr.mono (by decide)) passL (pa_cons (lv 2) (pa_cons (pe_op (opU_add (K := K)) (pe_op opU_pow pe_int pe_int) pe_int) pa_nil))) (pa_cons pe_non (pa_cons pe_int pa_nil)))))))
      (pss_cons (ps_cut (ps_if (pt_truthU (K := K) (lv 3) (by intro _; rfl))
      (pss_one (ps_set (i := 4) sc_law.nd rfl (.inl rfl) (pe_op (opU_add (K := K)) (pe_slice (slU (K := K)) (lv 4) po_none (po_someU pe_int)) (pe_tup (pa_cons (pe_f (ok__law_name (K := K) T) (hr.mono (by decide)) passL (pa_cons (lv 2) pa_nil)) (pa_cons (pe_f (ok__law_digit (K := K) T) (hr.mono (by decide)) passL (pa_cons (lv 2) (pa_cons (pe_op (opU_add (K := K)) (pe_op opU_pow pe_int pe_int) pe_int) pa_nil))) pa_nil)))))) pss_nil))
      (pss_cons (ps_if (PW.pt (pw_or (pt_cmpU (opU_ne (K := K) hr) (pe_mS0 (CS := cs_Grouped_Loose c) (pe_fS (ok_work_of (K := K) T) (hr.mono (by decide)) takes0 (pa_cons (lv 4) pa_nil)) (okc_Grouped_Loose T) (okm_Grouped_Loose_told T) (hr.mono (by decide)) takes0) (lv 4) (nomark _)) (pw_or1 (pt_not (pt_truthU (K := K) (pe_f (ok__law_refused (K := K) T) hr passL (pa_cons (pe_f (ok__law_spoilt (K := K) T) hr passL (pa_cons (lv 2) (pa_cons (lv 4) pa_nil))) pa_nil)) (by intro _; rfl))))))
      (pss_one (ps_ret pe_bl)) pss_nil)
      (pss_one (ps_if (pt_cmpU (opU_ne (K := K) hr) (pe_mS0 (CS := cs_Grouped_Loose c) (pe_fS (ok_work_of (K := K) T) (hr.mono (by decide)) takes0 (pa_cons (lv 4) pa_nil)) (okc_Grouped_Loose T) (okm_Grouped_Loose_told T) (hr.mono (by decide)) takes0) (lv 4) (nomark _))
      (pss_one (ps_ret pe_bl)) pss_nil))))))))
      (pss_one (ps_ret pe_bl)), ?_⟩
    obtain ⟨ns, ⟨a0, rfl, hS, hl⟩, wf, k⟩ := h
    refine .inl ⟨_, .inl hS, _, rfl, by split <;> omega, by split <;> omega, ?_⟩
    refine for_range (lo := 0) (n := _) (fun i σ H' => Same H H' ∧ Wf H' ∧ ∃ x1 x2 x3 x4, σ = [some (.ref a0), x1, x2, x3, x4]) ⟨Same.refl _, wf, _, _, _, _, rfl⟩ (fun i σ H' hi hp => ?_) (fun σ H' hp => k H')
    obtain ⟨sm, w1, x1, x2, x3, x4, rfl⟩ := hp
    have hi2 : i < 64 := by
      have e : ((ns.map V.int).length : Int) = ns.length := by rw [List.length_map]
      rw [e] at hi
      split at hi <;> omega
    refine ⟨ns, _, ⟨a0, rfl, sm.seq hS, hl⟩, rfl, by omega, w1, fun n => ?_⟩
    refine ⟨n, _, rfl, rfl, by omega, by omega, w1, fun p q a na hp => ?_⟩
    have s0 : St2 (upd H' a (stL p q)) a := ⟨p, q, upd_same, hp⟩
    have dB0 := Dr.refl s0 (w1.new (o := stL p q) trivial na)
    have sm0 : Same H' (upd H' a (stL p q)) := same_new na
    have smH : ∀ {H2 : Hp}, Dr a (upd H' a (stL p q)) H2 → Same H H2 := fun {H2} d b o e => d.kp b o (ne_of_none (sm _ _ e) na) (sm0 b o (sm _ _ e))
    generalize upd H' a (stL p q) = HB0 at s0 dB0 smH ⊢
    refine ⟨a, 2, rfl, rfl, dB0.st, bas_lt (by decide) (by decide), dB0.wf, fun rB1 pB1 qB1 gB1 lB1 nB1 => ?_⟩
    have dB1 := dB0.drawn (q := qB1) nB1
    generalize upd HB0 a (stL pB1 qB1) = HB1 at dB1  ⊢
    refine ⟨a, rfl, dB1.st, dB1.wf, fun nm pB2 qB2 snm nB2 => ?_⟩
    have dB2 := dB1.drawn (q := qB2) nB2
    generalize upd HB1 a (stL pB2 qB2) = HB2 at dB2  ⊢
    refine ⟨a, rfl, dB2.st, dB2.wf, fun hm pB3 qB3 shm nB3 => ?_⟩
    have dB3 := dB2.drawn (q := qB3) nB3
    generalize upd HB2 a (stL pB3 qB3) = HB3 at dB3  ⊢
    refine ⟨⟨by decide, by decide, by decide⟩, ?_⟩
    refine ⟨a, _, rfl, rfl, dB3.st, bas_lt (by decide) (by decide), dB3.wf, fun rB4 pB4 qB4 gB4 lB4 nB4 => ?_⟩
    have dB4 := dB3.drawn (q := qB4) nB4
    generalize upd HB3 a (stL pB4 qB4) = HB4 at dB4  ⊢
    refine ⟨line_of (show 5 ≤ 16777216 by decide), fun t nt => ?_⟩
    have net := st_ne dB4.st nt
    have dB5 := dB4.new (p := t) (o := .tup [.str nm, .str hm, .int rB4, .non, .int 0]) nt trivial
    have et : (upd HB4 t (.tup [.str nm, .str hm, .int rB4, .non, .int 0])) t = some (.tup [.str nm, .str hm, .int rB4, .non, .int 0]) := upd_same
    generalize upd HB4 t (.tup [.str nm, .str hm, .int rB4, .non, .int 0]) = HB5 at dB5 et  ⊢
    rw [e12] at lB4
    refine ⟨fun σ' H2 => ∃ t w x3, σ' = [some (.ref a0), some (.int (0 + i)), some (.ref a), x3, some (.ref t)] ∧ WkOk w ∧ H2 t = some (.tup (tupW w)) ∧ Dr a HB0 H2, iteB (fun hg => ?_) (fun hg => ?_), ?_⟩
    · refine .inr ⟨_, _, rfl, .inl (.inl et), (show ¬ (HT.sIx 5 0 none = 0 ∧ HT.sIx 5 5 (some 3) = 5) by decide), fun y1 ny1 => ?_⟩
      have dB6 := dB5.new (p := y1) (o := .tup [.str nm, .str hm, .int rB4]) ny1 trivial
      have ney1 := st_ne dB5.st ny1
      have ey1 : (upd HB5 y1 (.tup [.str nm, .str hm, .int rB4])) y1 = some (.tup [.str nm, .str hm, .int rB4]) := upd_same
      have ec : cutV [V.str nm, V.str hm, .int rB4, .non, .int 0] none (some 3) = [.str nm, .str hm, .int rB4] := rfl
      rw [ec]
      generalize upd HB5 y1 (.tup [.str nm, .str hm, .int rB4]) = HB6 at dB6 ey1 ⊢
      refine ⟨a, rfl, dB6.st, dB6.wf, fun gm pB7 qB7 sgm nB7 => ?_⟩
      have dB7 := dB6.drawn (q := qB7) nB7
      replace ey1 := (upd_ne (o := stL pB7 qB7) ney1).trans ey1
      generalize upd HB6 a (stL pB7 qB7) = HB7 at dB7 ey1 ⊢
      refine ⟨⟨by decide, by decide, by decide⟩, ?_⟩
      refine ⟨a, _, rfl, rfl, dB7.st, bas_lt (by decide) (by decide), dB7.wf, fun rB8 pB8 qB8 gB8 lB8 nB8 => ?_⟩
      have dB8 := dB7.drawn (q := qB8) nB8
      replace ey1 := (upd_ne (o := stL pB8 qB8) ney1).trans ey1
      generalize upd HB7 a (stL pB8 qB8) = HB8 at dB8 ey1 ⊢
      refine ⟨line_of (show 2 ≤ 16777216 by decide), fun y2 ny2 => ?_⟩
      have ney2 := st_ne dB8.st ny2
      have dB9 := dB8.new (p := y2) (o := .tup [.str gm, .int rB8]) ny2 trivial
      replace ey1 := same_new (o := .tup [.str gm, .int rB8]) ny2 _ _ ey1
      have ey2 : (upd HB8 y2 (.tup [.str gm, .int rB8])) y2 = some (.tup [.str gm, .int rB8]) := upd_same
      generalize upd HB8 y2 (.tup [.str gm, .int rB8]) = HB9 at dB9 ey2 ey1 ⊢
      rw [e9] at lB8
      refine .inr ⟨_, _, _, _, rfl, rfl, .inl (.inl ey1), .inl (.inl ey2), (fun z => by cases z), line_of (show 5 ≤ 16777216 by decide), (fun z => by cases z), fun _ y3 ny3 => ?_⟩
      have dZ := dB9.new (p := y3) (o := .tup (tupW ⟨nm, hm, rB4, some gm, rB8⟩)) ny3 trivial
      exact ⟨y3, ⟨nm, hm, rB4, some gm, rB8⟩, _, rfl, .grouped snm shm gB4 (by omega) sgm gB8 (by omega), upd_same, dZ⟩
    · exact ⟨t, ⟨nm, hm, rB4, none, 0⟩, _, rfl, .loose snm shm gB4 (by omega), et, dB5⟩
    rintro σ' HC ⟨t, w, x3, rfl, ok, et, dC⟩
    have told : ∀ {H2 : Hp}, Dr a HC H2 → SqT K H2 t (tupW w) := fun d => d.tups dC.st _ _ (.inl (.inl et))
    refine ⟨dC.wf, .inl ⟨w, work_dp (.inl (.inl et)), ok.sm, ok.1, fun x1 HW1 nx smW1 wW1 wk => ?_⟩⟩
    obtain ⟨dx, hx⟩ := wk
    refine ⟨x1, clsW c w, dx, fsW w, rfl, hx, csW c w, rfl, x1, w, dx, rfl, hx, wW1, fun p2 np2 => ?_⟩
    have sm2 : Same HW1 (upd HW1 p2 (.tup (tupW w))) := same_new np2
    have e2 : (upd HW1 p2 (.tup (tupW w))) p2 = some (.tup (tupW w)) := upd_same
    have wV1 := wW1.new (o := .tup (tupW w)) trivial np2
    generalize upd HW1 p2 (.tup (tupW w)) = HV1 at sm2 e2 wV1 ⊢
    have smV1 := smW1.trans sm2
    have tV1 := same_tups (K := K) smV1 _ _ (.inl (.inl et))
    refine ⟨workD w, workD w, work_dp (.inl (.inl e2)), work_dp tV1, work_shaped ok, work_shaped ok, ?_⟩
    rw [work_eq ok]
    have dr1 : Dr a HC HV1 := .ofSame smV1 dC.st wV1
    refine ⟨a, t, w, rfl, rfl, tV1, ok, dr1.st, wV1, fun v HS nw dS => ?_⟩
    refine ⟨nw, dS.wf, ?_⟩
    have drS := dr1.trans dS
    refine ⟨dS.wf, .inl ⟨w, work_dp (told drS), ok.sm, ok.1, fun x2 HW2 nx smW2 wW2 wk => ?_⟩⟩
    obtain ⟨dx, hx⟩ := wk
    refine ⟨x2, clsW c w, dx, fsW w, rfl, hx, csW c w, rfl, x2, w, dx, rfl, hx, wW2, fun p2 np2 => ?_⟩
    have sm2 : Same HW2 (upd HW2 p2 (.tup (tupW w))) := same_new np2
    have e2 : (upd HW2 p2 (.tup (tupW w))) p2 = some (.tup (tupW w)) := upd_same
    have wV2 := wW2.new (o := .tup (tupW w)) trivial np2
    generalize upd HW2 p2 (.tup (tupW w)) = HV2 at sm2 e2 wV2 ⊢
    have smV2 := smW2.trans sm2
    have tV2 := same_tups (K := K) smV2 _ _ (told drS)
    refine ⟨workD w, workD w, work_dp (.inl (.inl e2)), work_dp tV2, work_shaped ok, work_shaped ok, ?_⟩
    rw [work_eq ok]
    have dr2 := drS.trans (.ofSame smV2 dS.st wV2)
    exact ⟨smH (dC.trans dr2), wV2, _, _, _, _, rfl⟩
theorem all_mk {l : PySem.W.OpenLaw} {w : World} {K : PySem.W.Frag} {h : Heap} {mg : Str → Option Value} {fa : Addr} (X : K.In h) (G : h.Ns mainGlobals mg) (hfa : mg "law" = some (.ref fa))
    {f1 : Addr} {od1 an1 : Option Addr} {sl1 : Array (Option Value)} {oc1 kV1 dc1 pm1 cd1 ct1 : Value}
    (a1 : PySem.W.nsIn K mainGlobals "is_name" = some (some (.ref f1))) (l1 : K.lookup f1 = some ⟨oc1, od1, .func (PySem.W.fnOf "is_name" "is_name" (defArgs (topS 15)) (defBody (topS 15)) (defScope (topS 15)) .none kV1 dc1 pm1 an1 cd1 ct1), sl1⟩) (c1 : PySem.W.codeIn K cd1 "is_name" = true) (k1 : PySem.W.keepIn K (.ref f1) = true)
    {f2 : Addr} {od2 an2 : Option Addr} {sl2 : Array (Option Value)} {oc2 kV2 dc2 pm2 cd2 ct2 : Value}
    (a2 : PySem.W.nsIn K mainGlobals "is_whole" = some (some (.ref f2))) (l2 : K.lookup f2 = some ⟨oc2, od2, .func (PySem.W.fnOf "is_whole" "is_whole" (defArgs (topS 16)) (defBody (topS 16)) (defScope (topS 16)) .none kV2 dc2 pm2 an2 cd2 ct2), sl2⟩) (c2 : PySem.W.codeIn K cd2 "is_whole" = true) (k2 : PySem.W.keepIn K (.ref f2) = true)
    {f3 : Addr} {od3 an3 : Option Addr} {sl3 : Array (Option Value)} {oc3 kV3 dc3 pm3 cd3 ct3 : Value}
    (a3 : PySem.W.nsIn K mainGlobals "is_moment" = some (some (.ref f3))) (l3 : K.lookup f3 = some ⟨oc3, od3, .func (PySem.W.fnOf "is_moment" "is_moment" (defArgs (topS 17)) (defBody (topS 17)) (defScope (topS 17)) .none kV3 dc3 pm3 an3 cd3 ct3), sl3⟩) (c3 : PySem.W.codeIn K cd3 "is_moment" = true) (k3 : PySem.W.keepIn K (.ref f3) = true)
    {f4 : Addr} {od4 an4 : Option Addr} {sl4 : Array (Option Value)} {oc4 kV4 dc4 pm4 cd4 ct4 : Value}
    (a4 : PySem.W.nsIn K mainGlobals "is_work" = some (some (.ref f4))) (l4 : K.lookup f4 = some ⟨oc4, od4, .func (PySem.W.fnOf "is_work" "is_work" (defArgs (topS 23)) (defBody (topS 23)) (defScope (topS 23)) .none kV4 dc4 pm4 an4 cd4 ct4), sl4⟩) (c4 : PySem.W.codeIn K cd4 "is_work" = true) (k4 : PySem.W.keepIn K (.ref f4) = true)
    {f5 : Addr} {od5 an5 : Option Addr} {sl5 : Array (Option Value)} {oc5 kV5 dc5 pm5 cd5 ct5 : Value}
    (a5 : PySem.W.nsIn K mainGlobals "work_of" = some (some (.ref f5))) (l5 : K.lookup f5 = some ⟨oc5, od5, .func (PySem.W.fnOf "work_of" "work_of" (defArgs (topS 24)) (defBody (topS 24)) (defScope (topS 24)) .none kV5 dc5 pm5 an5 cd5 ct5), sl5⟩) (c5 : PySem.W.codeIn K cd5 "work_of" = true) (k5 : PySem.W.keepIn K (.ref f5) = true)
    {f6 : Addr} {od6 an6 : Option Addr} {sl6 : Array (Option Value)} {oc6 kV6 dc6 pm6 cd6 ct6 : Value}
    (a6 : PySem.W.nsIn K mainGlobals "_law_cell_at" = some (some (.ref f6))) (l6 : K.lookup f6 = some ⟨oc6, od6, .func (PySem.W.fnOf "_law_cell_at" "_law_cell_at" (defArgs (topS 26)) (defBody (topS 26)) (defScope (topS 26)) .none kV6 dc6 pm6 an6 cd6 ct6), sl6⟩) (c6 : PySem.W.codeIn K cd6 "_law_cell_at" = true) (k6 : PySem.W.keepIn K (.ref f6) = true)
    {f7 : Addr} {od7 an7 : Option Addr} {sl7 : Array (Option Value)} {oc7 kV7 dc7 pm7 cd7 ct7 : Value}
    (a7 : PySem.W.nsIn K mainGlobals "_law_state" = some (some (.ref f7))) (l7 : K.lookup f7 = some ⟨oc7, od7, .func (PySem.W.fnOf "_law_state" "_law_state" (defArgs (topS 27)) (defBody (topS 27)) (defScope (topS 27)) .none kV7 dc7 pm7 an7 cd7 ct7), sl7⟩) (c7 : PySem.W.codeIn K cd7 "_law_state" = true) (k7 : PySem.W.keepIn K (.ref f7) = true)
    {f8 : Addr} {od8 an8 : Option Addr} {sl8 : Array (Option Value)} {oc8 kV8 dc8 pm8 cd8 ct8 : Value}
    (a8 : PySem.W.nsIn K mainGlobals "_law_mixed" = some (some (.ref f8))) (l8 : K.lookup f8 = some ⟨oc8, od8, .func (PySem.W.fnOf "_law_mixed" "_law_mixed" (defArgs (topS 28)) (defBody (topS 28)) (defScope (topS 28)) .none kV8 dc8 pm8 an8 cd8 ct8), sl8⟩) (c8 : PySem.W.codeIn K cd8 "_law_mixed" = true) (k8 : PySem.W.keepIn K (.ref f8) = true)
    {f9 : Addr} {od9 an9 : Option Addr} {sl9 : Array (Option Value)} {oc9 kV9 dc9 pm9 cd9 ct9 : Value}
    (a9 : PySem.W.nsIn K mainGlobals "_law_digit" = some (some (.ref f9))) (l9 : K.lookup f9 = some ⟨oc9, od9, .func (PySem.W.fnOf "_law_digit" "_law_digit" (defArgs (topS 29)) (defBody (topS 29)) (defScope (topS 29)) .none kV9 dc9 pm9 an9 cd9 ct9), sl9⟩) (c9 : PySem.W.codeIn K cd9 "_law_digit" = true) (k9 : PySem.W.keepIn K (.ref f9) = true)
    {f10 : Addr} {od10 an10 : Option Addr} {sl10 : Array (Option Value)} {oc10 kV10 dc10 pm10 cd10 ct10 : Value}
    (a10 : PySem.W.nsIn K mainGlobals "_law_name" = some (some (.ref f10))) (l10 : K.lookup f10 = some ⟨oc10, od10, .func (PySem.W.fnOf "_law_name" "_law_name" (defArgs (topS 30)) (defBody (topS 30)) (defScope (topS 30)) .none kV10 dc10 pm10 an10 cd10 ct10), sl10⟩) (c10 : PySem.W.codeIn K cd10 "_law_name" = true) (k10 : PySem.W.keepIn K (.ref f10) = true)
    {f11 : Addr} {od11 an11 : Option Addr} {sl11 : Array (Option Value)} {oc11 kV11 dc11 pm11 cd11 ct11 : Value}
    (a11 : PySem.W.nsIn K mainGlobals "_law_no_name" = some (some (.ref f11))) (l11 : K.lookup f11 = some ⟨oc11, od11, .func (PySem.W.fnOf "_law_no_name" "_law_no_name" (defArgs (topS 31)) (defBody (topS 31)) (defScope (topS 31)) .none kV11 dc11 pm11 an11 cd11 ct11), sl11⟩) (c11 : PySem.W.codeIn K cd11 "_law_no_name" = true) (k11 : PySem.W.keepIn K (.ref f11) = true)
    {f12 : Addr} {od12 an12 : Option Addr} {sl12 : Array (Option Value)} {oc12 kV12 dc12 pm12 cd12 ct12 : Value}
    (a12 : PySem.W.nsIn K mainGlobals "_law_no_number" = some (some (.ref f12))) (l12 : K.lookup f12 = some ⟨oc12, od12, .func (PySem.W.fnOf "_law_no_number" "_law_no_number" (defArgs (topS 32)) (defBody (topS 32)) (defScope (topS 32)) .none kV12 dc12 pm12 an12 cd12 ct12), sl12⟩) (c12 : PySem.W.codeIn K cd12 "_law_no_number" = true) (k12 : PySem.W.keepIn K (.ref f12) = true)
    {f13 : Addr} {od13 an13 : Option Addr} {sl13 : Array (Option Value)} {oc13 kV13 dc13 pm13 cd13 ct13 : Value}
    (a13 : PySem.W.nsIn K mainGlobals "_law_spoilt" = some (some (.ref f13))) (l13 : K.lookup f13 = some ⟨oc13, od13, .func (PySem.W.fnOf "_law_spoilt" "_law_spoilt" (defArgs (topS 33)) (defBody (topS 33)) (defScope (topS 33)) .none kV13 dc13 pm13 an13 cd13 ct13), sl13⟩) (c13 : PySem.W.codeIn K cd13 "_law_spoilt" = true) (k13 : PySem.W.keepIn K (.ref f13) = true)
    {f14 : Addr} {od14 an14 : Option Addr} {sl14 : Array (Option Value)} {oc14 kV14 dc14 pm14 cd14 ct14 : Value}
    (a14 : PySem.W.nsIn K mainGlobals "_law_refused" = some (some (.ref f14))) (l14 : K.lookup f14 = some ⟨oc14, od14, .func (PySem.W.fnOf "_law_refused" "_law_refused" (defArgs (topS 34)) (defBody (topS 34)) (defScope (topS 34)) .none kV14 dc14 pm14 an14 cd14 ct14), sl14⟩) (c14 : PySem.W.codeIn K cd14 "_law_refused" = true) (k14 : PySem.W.keepIn K (.ref f14) = true)
    {f15 : Addr} {od15 an15 : Option Addr} {sl15 : Array (Option Value)} {oc15 kV15 dc15 pm15 cd15 ct15 : Value}
    (a15 : PySem.W.nsIn K mainGlobals "law" = some (some (.ref f15))) (l15 : K.lookup f15 = some ⟨oc15, od15, .func (PySem.W.fnOf "law" "law" (defArgs (topS 35)) (defBody (topS 35)) (defScope (topS 35)) .none kV15 dc15 pm15 an15 cd15 ct15), sl15⟩) (c15 : PySem.W.codeIn K cd15 "law" = true) (k15 : PySem.W.keepIn K (.ref f15) = true)
    (hn0 : PySem.W.specialIn K (.builtin "object.__class__") "__get__" = some (some (.builtin "getset_descriptor.__get__")))
    (ht0 : PySem.W.takesIn K (.builtin "object.__class__") = some true)
    {C_LentError : Addr}
    (aC_LentError : PySem.W.nsIn K mainGlobals "LentError" = some (some (.ref C_LentError)))
    (ha_LentError : PySem.W.findIn K (.ref C_LentError) "__class__" = some (some (.builtin "object.__class__")))
    (hm_LentError : PySem.W.mroIn K C_LentError (.type "object") = some true)
    (hd_LentError : PySem.W.hasDictIn K C_LentError = true)
    (kc_LentError : PySem.W.keepIn K (.ref C_LentError) = true)
    (xx_LentError : PySem.W.excIn K C_LentError R.veB "ValueError.__new__" = true)
    (xb_LentError : PySem.W.subIn K (.ref C_LentError) (.type "BaseException") = some true)
    (xt_LentError : PySem.W.typeIn K (.ref C_LentError) = some (.type "type"))
    (xv_LentError : PySem.W.subIn K (.ref C_LentError) (.type "ValueError") = some true)
    (xg_LentError : PySem.W.findIn K (.ref C_LentError) "__getattribute__" = some (some (.builtin "BaseException.__getattribute__")))
    (xh_LentError : PySem.W.findIn K (.ref C_LentError) "__getattr__" = some none)
    {C_NoWork : Addr}
    (aC_NoWork : PySem.W.nsIn K mainGlobals "NoWork" = some (some (.ref C_NoWork)))
    (ha_NoWork : PySem.W.findIn K (.ref C_NoWork) "__class__" = some (some (.builtin "object.__class__")))
    (hm_NoWork : PySem.W.mroIn K C_NoWork (.type "object") = some true)
    (hd_NoWork : PySem.W.hasDictIn K C_NoWork = true)
    (kc_NoWork : PySem.W.keepIn K (.ref C_NoWork) = true)
    (xx_NoWork : PySem.W.excIn K C_NoWork R.veB "ValueError.__new__" = true)
    (xb_NoWork : PySem.W.subIn K (.ref C_NoWork) (.type "BaseException") = some true)
    (xt_NoWork : PySem.W.typeIn K (.ref C_NoWork) = some (.type "type"))
    (xv_NoWork : PySem.W.subIn K (.ref C_NoWork) (.type "ValueError") = some true)
    (xg_NoWork : PySem.W.findIn K (.ref C_NoWork) "__getattribute__" = some (some (.builtin "BaseException.__getattribute__")))
    (xh_NoWork : PySem.W.findIn K (.ref C_NoWork) "__getattr__" = some none)
    {C_IsIn : Addr}
    (aC_IsIn : PySem.W.nsIn K mainGlobals "IsIn" = some (some (.ref C_IsIn)))
    (ha_IsIn : PySem.W.findIn K (.ref C_IsIn) "__class__" = some (some (.builtin "object.__class__")))
    (hm_IsIn : PySem.W.mroIn K C_IsIn (.type "object") = some true)
    (hd_IsIn : PySem.W.hasDictIn K C_IsIn = true)
    (kc_IsIn : PySem.W.keepIn K (.ref C_IsIn) = true)
    (xx_IsIn : PySem.W.excIn K C_IsIn R.veB "ValueError.__new__" = true)
    (xb_IsIn : PySem.W.subIn K (.ref C_IsIn) (.type "BaseException") = some true)
    (xt_IsIn : PySem.W.typeIn K (.ref C_IsIn) = some (.type "type"))
    (xv_IsIn : PySem.W.subIn K (.ref C_IsIn) (.type "ValueError") = some true)
    (xg_IsIn : PySem.W.findIn K (.ref C_IsIn) "__getattribute__" = some (some (.builtin "BaseException.__getattribute__")))
    (xh_IsIn : PySem.W.findIn K (.ref C_IsIn) "__getattr__" = some none)
    {C_NoRule : Addr}
    (aC_NoRule : PySem.W.nsIn K mainGlobals "NoRule" = some (some (.ref C_NoRule)))
    (ha_NoRule : PySem.W.findIn K (.ref C_NoRule) "__class__" = some (some (.builtin "object.__class__")))
    (hm_NoRule : PySem.W.mroIn K C_NoRule (.type "object") = some true)
    (hd_NoRule : PySem.W.hasDictIn K C_NoRule = true)
    (kc_NoRule : PySem.W.keepIn K (.ref C_NoRule) = true)
    (xx_NoRule : PySem.W.excIn K C_NoRule R.veB "ValueError.__new__" = true)
    (xb_NoRule : PySem.W.subIn K (.ref C_NoRule) (.type "BaseException") = some true)
    (xt_NoRule : PySem.W.typeIn K (.ref C_NoRule) = some (.type "type"))
    (xv_NoRule : PySem.W.subIn K (.ref C_NoRule) (.type "ValueError") = some true)
    (xg_NoRule : PySem.W.findIn K (.ref C_NoRule) "__getattribute__" = some (some (.builtin "BaseException.__getattribute__")))
    (xh_NoRule : PySem.W.findIn K (.ref C_NoRule) "__getattr__" = some none)
    {C_NoTry : Addr}
    (aC_NoTry : PySem.W.nsIn K mainGlobals "NoTry" = some (some (.ref C_NoTry)))
    (ha_NoTry : PySem.W.findIn K (.ref C_NoTry) "__class__" = some (some (.builtin "object.__class__")))
    (hm_NoTry : PySem.W.mroIn K C_NoTry (.type "object") = some true)
    (hd_NoTry : PySem.W.hasDictIn K C_NoTry = true)
    (kc_NoTry : PySem.W.keepIn K (.ref C_NoTry) = true)
    (xx_NoTry : PySem.W.excIn K C_NoTry R.veB "ValueError.__new__" = true)
    (xb_NoTry : PySem.W.subIn K (.ref C_NoTry) (.type "BaseException") = some true)
    (xt_NoTry : PySem.W.typeIn K (.ref C_NoTry) = some (.type "type"))
    (xv_NoTry : PySem.W.subIn K (.ref C_NoTry) (.type "ValueError") = some true)
    (xg_NoTry : PySem.W.findIn K (.ref C_NoTry) "__getattribute__" = some (some (.builtin "BaseException.__getattribute__")))
    (xh_NoTry : PySem.W.findIn K (.ref C_NoTry) "__getattr__" = some none)
    {C_NoMoment : Addr}
    (aC_NoMoment : PySem.W.nsIn K mainGlobals "NoMoment" = some (some (.ref C_NoMoment)))
    (ha_NoMoment : PySem.W.findIn K (.ref C_NoMoment) "__class__" = some (some (.builtin "object.__class__")))
    (hm_NoMoment : PySem.W.mroIn K C_NoMoment (.type "object") = some true)
    (hd_NoMoment : PySem.W.hasDictIn K C_NoMoment = true)
    (kc_NoMoment : PySem.W.keepIn K (.ref C_NoMoment) = true)
    (xx_NoMoment : PySem.W.excIn K C_NoMoment R.veB "ValueError.__new__" = true)
    (xb_NoMoment : PySem.W.subIn K (.ref C_NoMoment) (.type "BaseException") = some true)
    (xt_NoMoment : PySem.W.typeIn K (.ref C_NoMoment) = some (.type "type"))
    (xv_NoMoment : PySem.W.subIn K (.ref C_NoMoment) (.type "ValueError") = some true)
    (xg_NoMoment : PySem.W.findIn K (.ref C_NoMoment) "__getattribute__" = some (some (.builtin "BaseException.__getattribute__")))
    (xh_NoMoment : PySem.W.findIn K (.ref C_NoMoment) "__getattr__" = some none)
    {C_NoGroup : Addr}
    (aC_NoGroup : PySem.W.nsIn K mainGlobals "NoGroup" = some (some (.ref C_NoGroup)))
    (ha_NoGroup : PySem.W.findIn K (.ref C_NoGroup) "__class__" = some (some (.builtin "object.__class__")))
    (hm_NoGroup : PySem.W.mroIn K C_NoGroup (.type "object") = some true)
    (hd_NoGroup : PySem.W.hasDictIn K C_NoGroup = true)
    (kc_NoGroup : PySem.W.keepIn K (.ref C_NoGroup) = true)
    (xx_NoGroup : PySem.W.excIn K C_NoGroup R.veB "ValueError.__new__" = true)
    (xb_NoGroup : PySem.W.subIn K (.ref C_NoGroup) (.type "BaseException") = some true)
    (xt_NoGroup : PySem.W.typeIn K (.ref C_NoGroup) = some (.type "type"))
    (xv_NoGroup : PySem.W.subIn K (.ref C_NoGroup) (.type "ValueError") = some true)
    (xg_NoGroup : PySem.W.findIn K (.ref C_NoGroup) "__getattribute__" = some (some (.builtin "BaseException.__getattribute__")))
    (xh_NoGroup : PySem.W.findIn K (.ref C_NoGroup) "__getattr__" = some none)
    {C_NoHouse : Addr}
    (aC_NoHouse : PySem.W.nsIn K mainGlobals "NoHouse" = some (some (.ref C_NoHouse)))
    (ha_NoHouse : PySem.W.findIn K (.ref C_NoHouse) "__class__" = some (some (.builtin "object.__class__")))
    (hm_NoHouse : PySem.W.mroIn K C_NoHouse (.type "object") = some true)
    (hd_NoHouse : PySem.W.hasDictIn K C_NoHouse = true)
    (kc_NoHouse : PySem.W.keepIn K (.ref C_NoHouse) = true)
    (xx_NoHouse : PySem.W.excIn K C_NoHouse R.veB "ValueError.__new__" = true)
    (xb_NoHouse : PySem.W.subIn K (.ref C_NoHouse) (.type "BaseException") = some true)
    (xt_NoHouse : PySem.W.typeIn K (.ref C_NoHouse) = some (.type "type"))
    (xv_NoHouse : PySem.W.subIn K (.ref C_NoHouse) (.type "ValueError") = some true)
    (xg_NoHouse : PySem.W.findIn K (.ref C_NoHouse) "__getattribute__" = some (some (.builtin "BaseException.__getattribute__")))
    (xh_NoHouse : PySem.W.findIn K (.ref C_NoHouse) "__getattr__" = some none)
    {C_NoRow : Addr}
    (aC_NoRow : PySem.W.nsIn K mainGlobals "NoRow" = some (some (.ref C_NoRow)))
    (ha_NoRow : PySem.W.findIn K (.ref C_NoRow) "__class__" = some (some (.builtin "object.__class__")))
    (hm_NoRow : PySem.W.mroIn K C_NoRow (.type "object") = some true)
    (hd_NoRow : PySem.W.hasDictIn K C_NoRow = true)
    (kc_NoRow : PySem.W.keepIn K (.ref C_NoRow) = true)
    (xx_NoRow : PySem.W.excIn K C_NoRow R.veB "ValueError.__new__" = true)
    (xb_NoRow : PySem.W.subIn K (.ref C_NoRow) (.type "BaseException") = some true)
    (xt_NoRow : PySem.W.typeIn K (.ref C_NoRow) = some (.type "type"))
    (xv_NoRow : PySem.W.subIn K (.ref C_NoRow) (.type "ValueError") = some true)
    (xg_NoRow : PySem.W.findIn K (.ref C_NoRow) "__getattribute__" = some (some (.builtin "BaseException.__getattribute__")))
    (xh_NoRow : PySem.W.findIn K (.ref C_NoRow) "__getattr__" = some none)
    {C_Work : Addr}
    (aC_Work : PySem.W.nsIn K mainGlobals "Work" = some (some (.ref C_Work)))
    (ha_Work : PySem.W.findIn K (.ref C_Work) "__class__" = some (some (.builtin "object.__class__")))
    (hm_Work : PySem.W.mroIn K C_Work (.type "object") = some true)
    (hd_Work : PySem.W.hasDictIn K C_Work = true)
    (kc_Work : PySem.W.keepIn K (.ref C_Work) = true)
    (pg_Work : PySem.W.plainGet K C_Work Str.empty = true)
    (po_Work : PySem.W.plainOver K C_Work = true)
    (sa_Work : PySem.W.findIn K (.ref C_Work) "__setattr__" = some (some (.builtin "object.__setattr__")))
    (mk_Work : PySem.W.makesIn K C_Work = true)
    {fIWork : Addr} {odIWork anIWork : Option Addr} {slIWork : Array (Option Value)} {ocIWork kVIWork dcIWork pmIWork cdIWork ctIWork : Value}
    (aIWork : PySem.W.findIn K (.ref C_Work) "__init__" = some (some (.ref fIWork)))
    (iIWork : PySem.W.isFn K (.ref fIWork) = true)
    (lIWork : K.lookup fIWork = some ⟨ocIWork, odIWork, .func (PySem.W.fnOf "__init__" "Work.__init__" (defArgs (inClass (topS 20) 0)) (defBody (inClass (topS 20) 0)) (defScope (inClass (topS 20) 0)) .none kVIWork dcIWork pmIWork anIWork cdIWork ctIWork), slIWork⟩)
    (cIWork : PySem.W.codeIn K cdIWork "Work.__init__" = true)
    (kIWork : PySem.W.keepIn K (.ref fIWork) = true)
    {fMWork_told : Addr} {odMWork_told anMWork_told : Option Addr} {slMWork_told : Array (Option Value)} {ocMWork_told kVMWork_told dcMWork_told pmMWork_told cdMWork_told ctMWork_told : Value}
    (aMWork_told : PySem.W.findIn K (.ref C_Work) "told" = some (some (.ref fMWork_told)))
    (iMWork_told : PySem.W.isFn K (.ref fMWork_told) = true)
    (lMWork_told : K.lookup fMWork_told = some ⟨ocMWork_told, odMWork_told, .func (PySem.W.fnOf "told" "Work.told" (defArgs (inClass (topS 20) 1)) (defBody (inClass (topS 20) 1)) (defScope (inClass (topS 20) 1)) .none kVMWork_told dcMWork_told pmMWork_told anMWork_told cdMWork_told ctMWork_told), slMWork_told⟩)
    (cMWork_told : PySem.W.codeIn K cdMWork_told "Work.told" = true)
    (kMWork_told : PySem.W.keepIn K (.ref fMWork_told) = true)
    (n_Work_name : PySem.W.findIn K (.ref C_Work) "name" = some none)
    (n_Work_house : PySem.W.findIn K (.ref C_Work) "house" = some none)
    (n_Work_ready : PySem.W.findIn K (.ref C_Work) "ready" = some none)
    (n_Work_group : PySem.W.findIn K (.ref C_Work) "group" = some none)
    (n_Work_place : PySem.W.findIn K (.ref C_Work) "place" = some none)
    {C_Loose : Addr}
    (aC_Loose : PySem.W.nsIn K mainGlobals "Loose" = some (some (.ref C_Loose)))
    (ha_Loose : PySem.W.findIn K (.ref C_Loose) "__class__" = some (some (.builtin "object.__class__")))
    (hm_Loose : PySem.W.mroIn K C_Loose (.type "object") = some true)
    (hd_Loose : PySem.W.hasDictIn K C_Loose = true)
    (kc_Loose : PySem.W.keepIn K (.ref C_Loose) = true)
    (pg_Loose : PySem.W.plainGet K C_Loose Str.empty = true)
    (po_Loose : PySem.W.plainOver K C_Loose = true)
    (sa_Loose : PySem.W.findIn K (.ref C_Loose) "__setattr__" = some (some (.builtin "object.__setattr__")))
    (mk_Loose : PySem.W.makesIn K C_Loose = true)
    {fILoose : Addr} {odILoose anILoose : Option Addr} {slILoose : Array (Option Value)} {ocILoose kVILoose dcILoose pmILoose cdILoose ctILoose : Value}
    (aILoose : PySem.W.findIn K (.ref C_Loose) "__init__" = some (some (.ref fILoose)))
    (iILoose : PySem.W.isFn K (.ref fILoose) = true)
    (lILoose : K.lookup fILoose = some ⟨ocILoose, odILoose, .func (PySem.W.fnOf "__init__" "Work.__init__" (defArgs (inClass (topS 20) 0)) (defBody (inClass (topS 20) 0)) (defScope (inClass (topS 20) 0)) .none kVILoose dcILoose pmILoose anILoose cdILoose ctILoose), slILoose⟩)
    (cILoose : PySem.W.codeIn K cdILoose "Work.__init__" = true)
    (kILoose : PySem.W.keepIn K (.ref fILoose) = true)
    {fMLoose_told : Addr} {odMLoose_told anMLoose_told : Option Addr} {slMLoose_told : Array (Option Value)} {ocMLoose_told kVMLoose_told dcMLoose_told pmMLoose_told cdMLoose_told ctMLoose_told : Value}
    (aMLoose_told : PySem.W.findIn K (.ref C_Loose) "told" = some (some (.ref fMLoose_told)))
    (iMLoose_told : PySem.W.isFn K (.ref fMLoose_told) = true)
    (lMLoose_told : K.lookup fMLoose_told = some ⟨ocMLoose_told, odMLoose_told, .func (PySem.W.fnOf "told" "Work.told" (defArgs (inClass (topS 20) 1)) (defBody (inClass (topS 20) 1)) (defScope (inClass (topS 20) 1)) .none kVMLoose_told dcMLoose_told pmMLoose_told anMLoose_told cdMLoose_told ctMLoose_told), slMLoose_told⟩)
    (cMLoose_told : PySem.W.codeIn K cdMLoose_told "Work.told" = true)
    (kMLoose_told : PySem.W.keepIn K (.ref fMLoose_told) = true)
    (n_Loose_name : PySem.W.findIn K (.ref C_Loose) "name" = some none)
    (n_Loose_house : PySem.W.findIn K (.ref C_Loose) "house" = some none)
    (n_Loose_ready : PySem.W.findIn K (.ref C_Loose) "ready" = some none)
    (n_Loose_group : PySem.W.findIn K (.ref C_Loose) "group" = some none)
    (n_Loose_place : PySem.W.findIn K (.ref C_Loose) "place" = some none)
    {C_Grouped : Addr}
    (aC_Grouped : PySem.W.nsIn K mainGlobals "Grouped" = some (some (.ref C_Grouped)))
    (ha_Grouped : PySem.W.findIn K (.ref C_Grouped) "__class__" = some (some (.builtin "object.__class__")))
    (hm_Grouped : PySem.W.mroIn K C_Grouped (.type "object") = some true)
    (hd_Grouped : PySem.W.hasDictIn K C_Grouped = true)
    (kc_Grouped : PySem.W.keepIn K (.ref C_Grouped) = true)
    (pg_Grouped : PySem.W.plainGet K C_Grouped Str.empty = true)
    (po_Grouped : PySem.W.plainOver K C_Grouped = true)
    (sa_Grouped : PySem.W.findIn K (.ref C_Grouped) "__setattr__" = some (some (.builtin "object.__setattr__")))
    (mk_Grouped : PySem.W.makesIn K C_Grouped = true)
    {fIGrouped : Addr} {odIGrouped anIGrouped : Option Addr} {slIGrouped : Array (Option Value)} {ocIGrouped kVIGrouped dcIGrouped pmIGrouped cdIGrouped ctIGrouped : Value}
    (aIGrouped : PySem.W.findIn K (.ref C_Grouped) "__init__" = some (some (.ref fIGrouped)))
    (iIGrouped : PySem.W.isFn K (.ref fIGrouped) = true)
    (lIGrouped : K.lookup fIGrouped = some ⟨ocIGrouped, odIGrouped, .func (PySem.W.fnOf "__init__" "Work.__init__" (defArgs (inClass (topS 20) 0)) (defBody (inClass (topS 20) 0)) (defScope (inClass (topS 20) 0)) .none kVIGrouped dcIGrouped pmIGrouped anIGrouped cdIGrouped ctIGrouped), slIGrouped⟩)
    (cIGrouped : PySem.W.codeIn K cdIGrouped "Work.__init__" = true)
    (kIGrouped : PySem.W.keepIn K (.ref fIGrouped) = true)
    {fMGrouped_told : Addr} {odMGrouped_told anMGrouped_told : Option Addr} {slMGrouped_told : Array (Option Value)} {ocMGrouped_told kVMGrouped_told dcMGrouped_told pmMGrouped_told cdMGrouped_told ctMGrouped_told : Value}
    (aMGrouped_told : PySem.W.findIn K (.ref C_Grouped) "told" = some (some (.ref fMGrouped_told)))
    (iMGrouped_told : PySem.W.isFn K (.ref fMGrouped_told) = true)
    (lMGrouped_told : K.lookup fMGrouped_told = some ⟨ocMGrouped_told, odMGrouped_told, .func (PySem.W.fnOf "told" "Work.told" (defArgs (inClass (topS 20) 1)) (defBody (inClass (topS 20) 1)) (defScope (inClass (topS 20) 1)) .none kVMGrouped_told dcMGrouped_told pmMGrouped_told anMGrouped_told cdMGrouped_told ctMGrouped_told), slMGrouped_told⟩)
    (cMGrouped_told : PySem.W.codeIn K cdMGrouped_told "Work.told" = true)
    (kMGrouped_told : PySem.W.keepIn K (.ref fMGrouped_told) = true)
    (n_Grouped_name : PySem.W.findIn K (.ref C_Grouped) "name" = some none)
    (n_Grouped_house : PySem.W.findIn K (.ref C_Grouped) "house" = some none)
    (n_Grouped_ready : PySem.W.findIn K (.ref C_Grouped) "ready" = some none)
    (n_Grouped_group : PySem.W.findIn K (.ref C_Grouped) "group" = some none)
    (n_Grouped_place : PySem.W.findIn K (.ref C_Grouped) "place" = some none)
    (u_NoWork_LentError : PySem.W.subIn K (.ref C_NoWork) (.ref C_LentError) = some true)
    (u_NoWork_IsIn : PySem.W.subIn K (.ref C_NoWork) (.ref C_IsIn) = some false)
    (u_NoWork_NoGroup : PySem.W.subIn K (.ref C_NoWork) (.ref C_NoGroup) = some false)
    (u_NoWork_NoHouse : PySem.W.subIn K (.ref C_NoWork) (.ref C_NoHouse) = some false)
    (u_NoWork_NoMoment : PySem.W.subIn K (.ref C_NoWork) (.ref C_NoMoment) = some false)
    (u_NoWork_NoRow : PySem.W.subIn K (.ref C_NoWork) (.ref C_NoRow) = some false)
    (u_NoWork_NoRule : PySem.W.subIn K (.ref C_NoWork) (.ref C_NoRule) = some false)
    (u_NoWork_NoTry : PySem.W.subIn K (.ref C_NoWork) (.ref C_NoTry) = some false)
    (u_NoWork_NoWork : PySem.W.subIn K (.ref C_NoWork) (.ref C_NoWork) = some true)
    (s_Loose_Work : PySem.W.kitOne K (.ref C_Loose) (.ref C_Work) = some true)
    (s_Loose_Loose : PySem.W.kitOne K (.ref C_Loose) (.ref C_Loose) = some true)
    (s_Loose_Grouped : PySem.W.kitOne K (.ref C_Loose) (.ref C_Grouped) = some false)
    (s_Grouped_Work : PySem.W.kitOne K (.ref C_Grouped) (.ref C_Work) = some true)
    (s_Grouped_Loose : PySem.W.kitOne K (.ref C_Grouped) (.ref C_Loose) = some false)
    (s_Grouped_Grouped : PySem.W.kitOne K (.ref C_Grouped) (.ref C_Grouped) = some true)
    (z_all : PySem.W.nsIn K mainGlobals "all" = some none)
    (z_isinstance : PySem.W.nsIn K mainGlobals "isinstance" = some none)
    (z_str : PySem.W.nsIn K mainGlobals "str" = some none)
    (z_len : PySem.W.nsIn K mainGlobals "len" = some none)
    (z_int : PySem.W.nsIn K mainGlobals "int" = some none)
    (z_bool : PySem.W.nsIn K mainGlobals "bool" = some none)
    (z_tuple : PySem.W.nsIn K mainGlobals "tuple" = some none)
    (z_range : PySem.W.nsIn K mainGlobals "range" = some none)
    (z_list : PySem.W.nsIn K mainGlobals "list" = some none)
    (z_ValueError : PySem.W.nsIn K mainGlobals "ValueError" = some none)
    (z_min : PySem.W.nsIn K mainGlobals "min" = some none)
    {tk_MOST_LETTERS : Tok} (c_MOST_LETTERS : PySem.W.nsIn K mainGlobals "MOST_LETTERS" = some (some (.int 8 tk_MOST_LETTERS)))
    {tk_LETTERS : Tok} (c_LETTERS : PySem.W.nsIn K mainGlobals "LETTERS" = some (some (.str "abcdefghijklmnopqrstuvwxyz" tk_LETTERS)))
    {tk_MOST_MOMENT : Tok} (c_MOST_MOMENT : PySem.W.nsIn K mainGlobals "MOST_MOMENT" = some (some (.int 1000000000000 tk_MOST_MOMENT)))
    {tk_MOST_PLACE : Tok} (c_MOST_PLACE : PySem.W.nsIn K mainGlobals "MOST_PLACE" = some (some (.int 1000000000 tk_MOST_PLACE))) :
    ∃ fd : FuncData, (∀ (s : Shared) (v : Value), BindsTo s fd ⟨[v], []⟩ [("_law_script", v)]) ∧ ∀ base : Heap, K.In base → base.Ns mainGlobals mg → FnOk l.prog w K mg base CX0 6 fa fd ["_law_script"] (sp_law K) := by
  have e := hfa.symm.trans (PySem.W.mg_of X G a15)
  cases e
  have T : Txt K mg ⟨C_LentError, C_NoWork, C_IsIn, C_NoRule, C_NoTry, C_NoMoment, C_NoGroup, C_NoHouse, C_NoRow, C_Work, C_Loose, C_Grouped⟩ := { x_LentError := ⟨PySem.W.mg_of X G aC_LentError, xx_LentError, kc_LentError, xb_LentError, xt_LentError, hd_LentError, xv_LentError, ⟨xg_LentError, xh_LentError, xb_LentError, hd_LentError, ha_LentError, hn0, ht0, hm_LentError⟩⟩, x_NoWork := ⟨PySem.W.mg_of X G aC_NoWork, xx_NoWork, kc_NoWork, xb_NoWork, xt_NoWork, hd_NoWork, xv_NoWork, ⟨xg_NoWork, xh_NoWork, xb_NoWork, hd_NoWork, ha_NoWork, hn0, ht0, hm_NoWork⟩⟩, x_IsIn := ⟨PySem.W.mg_of X G aC_IsIn, xx_IsIn, kc_IsIn, xb_IsIn, xt_IsIn, hd_IsIn, xv_IsIn, ⟨xg_IsIn, xh_IsIn, xb_IsIn, hd_IsIn, ha_IsIn, hn0, ht0, hm_IsIn⟩⟩, x_NoRule := ⟨PySem.W.mg_of X G aC_NoRule, xx_NoRule, kc_NoRule, xb_NoRule, xt_NoRule, hd_NoRule, xv_NoRule, ⟨xg_NoRule, xh_NoRule, xb_NoRule, hd_NoRule, ha_NoRule, hn0, ht0, hm_NoRule⟩⟩, x_NoTry := ⟨PySem.W.mg_of X G aC_NoTry, xx_NoTry, kc_NoTry, xb_NoTry, xt_NoTry, hd_NoTry, xv_NoTry, ⟨xg_NoTry, xh_NoTry, xb_NoTry, hd_NoTry, ha_NoTry, hn0, ht0, hm_NoTry⟩⟩, x_NoMoment := ⟨PySem.W.mg_of X G aC_NoMoment, xx_NoMoment, kc_NoMoment, xb_NoMoment, xt_NoMoment, hd_NoMoment, xv_NoMoment, ⟨xg_NoMoment, xh_NoMoment, xb_NoMoment, hd_NoMoment, ha_NoMoment, hn0, ht0, hm_NoMoment⟩⟩, x_NoGroup := ⟨PySem.W.mg_of X G aC_NoGroup, xx_NoGroup, kc_NoGroup, xb_NoGroup, xt_NoGroup, hd_NoGroup, xv_NoGroup, ⟨xg_NoGroup, xh_NoGroup, xb_NoGroup, hd_NoGroup, ha_NoGroup, hn0, ht0, hm_NoGroup⟩⟩, x_NoHouse := ⟨PySem.W.mg_of X G aC_NoHouse, xx_NoHouse, kc_NoHouse, xb_NoHouse, xt_NoHouse, hd_NoHouse, xv_NoHouse, ⟨xg_NoHouse, xh_NoHouse, xb_NoHouse, hd_NoHouse, ha_NoHouse, hn0, ht0, hm_NoHouse⟩⟩, x_NoRow := ⟨PySem.W.mg_of X G aC_NoRow, xx_NoRow, kc_NoRow, xb_NoRow, xt_NoRow, hd_NoRow, xv_NoRow, ⟨xg_NoRow, xh_NoRow, xb_NoRow, hd_NoRow, ha_NoRow, hn0, ht0, hm_NoRow⟩⟩, o_Work := ⟨PySem.W.mg_of X G aC_Work, ⟨pg_Work, hd_Work, po_Work, sa_Work⟩, ha_Work, hn0, ht0, hm_Work⟩, i_Work := ⟨PySem.W.mg_of X G aC_Work, _, _, ⟨mk_Work, aIWork, iIWork, kc_Work⟩, fun_mk (st := inClass (topS 20) 0) lIWork cIWork kIWork, (fun_mk (st := inClass (topS 20) 0) lIWork cIWork kIWork).binds (ps := ["self", "name", "house", "ready", "group", "place"]) fun _ _ _ _ _ _ us hl => match us, hl with | [_, _, _, _, _, _], _ => rfl⟩, m_Work_told := ⟨_, _, ⟨aMWork_told, iMWork_told, kMWork_told⟩, fun_mk (st := inClass (topS 20) 1) lMWork_told cMWork_told kMWork_told, (fun_mk (st := inClass (topS 20) 1) lMWork_told cMWork_told kMWork_told).binds (ps := ["self"]) fun _ _ _ _ _ _ us hl => match us, hl with | [_], _ => rfl⟩, n_Work_name := n_Work_name, n_Work_house := n_Work_house, n_Work_ready := n_Work_ready, n_Work_group := n_Work_group, n_Work_place := n_Work_place, o_Loose := ⟨PySem.W.mg_of X G aC_Loose, ⟨pg_Loose, hd_Loose, po_Loose, sa_Loose⟩, ha_Loose, hn0, ht0, hm_Loose⟩, i_Loose := ⟨PySem.W.mg_of X G aC_Loose, _, _, ⟨mk_Loose, aILoose, iILoose, kc_Loose⟩, fun_mk (st := inClass (topS 20) 0) lILoose cILoose kILoose, (fun_mk (st := inClass (topS 20) 0) lILoose cILoose kILoose).binds (ps := ["self", "name", "house", "ready", "group", "place"]) fun _ _ _ _ _ _ us hl => match us, hl with | [_, _, _, _, _, _], _ => rfl⟩, m_Loose_told := ⟨_, _, ⟨aMLoose_told, iMLoose_told, kMLoose_told⟩, fun_mk (st := inClass (topS 20) 1) lMLoose_told cMLoose_told kMLoose_told, (fun_mk (st := inClass (topS 20) 1) lMLoose_told cMLoose_told kMLoose_told).binds (ps := ["self"]) fun _ _ _ _ _ _ us hl => match us, hl with | [_], _ => rfl⟩, n_Loose_name := n_Loose_name, n_Loose_house := n_Loose_house, n_Loose_ready := n_Loose_ready, n_Loose_group := n_Loose_group, n_Loose_place := n_Loose_place, o_Grouped := ⟨PySem.W.mg_of X G aC_Grouped, ⟨pg_Grouped, hd_Grouped, po_Grouped, sa_Grouped⟩, ha_Grouped, hn0, ht0, hm_Grouped⟩, i_Grouped := ⟨PySem.W.mg_of X G aC_Grouped, _, _, ⟨mk_Grouped, aIGrouped, iIGrouped, kc_Grouped⟩, fun_mk (st := inClass (topS 20) 0) lIGrouped cIGrouped kIGrouped, (fun_mk (st := inClass (topS 20) 0) lIGrouped cIGrouped kIGrouped).binds (ps := ["self", "name", "house", "ready", "group", "place"]) fun _ _ _ _ _ _ us hl => match us, hl with | [_, _, _, _, _, _], _ => rfl⟩, m_Grouped_told := ⟨_, _, ⟨aMGrouped_told, iMGrouped_told, kMGrouped_told⟩, fun_mk (st := inClass (topS 20) 1) lMGrouped_told cMGrouped_told kMGrouped_told, (fun_mk (st := inClass (topS 20) 1) lMGrouped_told cMGrouped_told kMGrouped_told).binds (ps := ["self"]) fun _ _ _ _ _ _ us hl => match us, hl with | [_], _ => rfl⟩, n_Grouped_name := n_Grouped_name, n_Grouped_house := n_Grouped_house, n_Grouped_ready := n_Grouped_ready, n_Grouped_group := n_Grouped_group, n_Grouped_place := n_Grouped_place, u_NoWork_LentError := u_NoWork_LentError, u_NoWork_IsIn := u_NoWork_IsIn, u_NoWork_NoGroup := u_NoWork_NoGroup, u_NoWork_NoHouse := u_NoWork_NoHouse, u_NoWork_NoMoment := u_NoWork_NoMoment, u_NoWork_NoRow := u_NoWork_NoRow, u_NoWork_NoRule := u_NoWork_NoRule, u_NoWork_NoTry := u_NoWork_NoTry, u_NoWork_NoWork := u_NoWork_NoWork, s_Loose_Work := s_Loose_Work, s_Loose_Loose := s_Loose_Loose, s_Loose_Grouped := s_Loose_Grouped, s_Grouped_Work := s_Grouped_Work, s_Grouped_Loose := s_Grouped_Loose, s_Grouped_Grouped := s_Grouped_Grouped, m_all := PySem.W.mg_none_of X G z_all, m_isinstance := PySem.W.mg_none_of X G z_isinstance, m_str := PySem.W.mg_none_of X G z_str, m_len := PySem.W.mg_none_of X G z_len, m_int := PySem.W.mg_none_of X G z_int, m_bool := PySem.W.mg_none_of X G z_bool, m_tuple := PySem.W.mg_none_of X G z_tuple, m_range := PySem.W.mg_none_of X G z_range, m_list := PySem.W.mg_none_of X G z_list, m_ValueError := PySem.W.mg_none_of X G z_ValueError, m_min := PySem.W.mg_none_of X G z_min, g_MOST_LETTERS := ⟨_, PySem.W.mg_of X G c_MOST_LETTERS, ⟨_, rfl⟩⟩, g_LETTERS := ⟨_, PySem.W.mg_of X G c_LETTERS, ⟨_, rfl⟩⟩, g_MOST_MOMENT := ⟨_, PySem.W.mg_of X G c_MOST_MOMENT, ⟨_, rfl⟩⟩, g_MOST_PLACE := ⟨_, PySem.W.mg_of X G c_MOST_PLACE, ⟨_, rfl⟩⟩, f_is_name := ⟨_, _, PySem.W.mg_of X G a1, fun_mk (st := topS 15) l1 c1 k1, (fun_mk (st := topS 15) l1 c1 k1).binds (ps := ["thing"]) fun _ _ _ _ _ _ us hl => match us, hl with | [_], _ => rfl⟩, f_is_whole := ⟨_, _, PySem.W.mg_of X G a2, fun_mk (st := topS 16) l2 c2 k2, (fun_mk (st := topS 16) l2 c2 k2).binds (ps := ["thing", "low", "high"]) fun _ _ _ _ _ _ us hl => match us, hl with | [_, _, _], _ => rfl⟩, f_is_moment := ⟨_, _, PySem.W.mg_of X G a3, fun_mk (st := topS 17) l3 c3 k3, (fun_mk (st := topS 17) l3 c3 k3).binds (ps := ["thing"]) fun _ _ _ _ _ _ us hl => match us, hl with | [_], _ => rfl⟩, f_is_work := ⟨_, _, PySem.W.mg_of X G a4, fun_mk (st := topS 23) l4 c4 k4, (fun_mk (st := topS 23) l4 c4 k4).binds (ps := ["told"]) fun _ _ _ _ _ _ us hl => match us, hl with | [_], _ => rfl⟩, f_work_of := ⟨_, _, PySem.W.mg_of X G a5, fun_mk (st := topS 24) l5 c5 k5, (fun_mk (st := topS 24) l5 c5 k5).binds (ps := ["told"]) fun _ _ _ _ _ _ us hl => match us, hl with | [_], _ => rfl⟩, f__law_cell_at := ⟨_, _, PySem.W.mg_of X G a6, fun_mk (st := topS 26) l6 c6 k6, (fun_mk (st := topS 26) l6 c6 k6).binds (ps := ["_law_script", "_law_k"]) fun _ _ _ _ _ _ us hl => match us, hl with | [_, _], _ => rfl⟩, f__law_state := ⟨_, _, PySem.W.mg_of X G a7, fun_mk (st := topS 27) l7 c7 k7, (fun_mk (st := topS 27) l7 c7 k7).binds (ps := ["_law_cell", "_law_k"]) fun _ _ _ _ _ _ us hl => match us, hl with | [_, _], _ => rfl⟩, f__law_mixed := ⟨_, _, PySem.W.mg_of X G a8, fun_mk (st := topS 28) l8 c8 k8, (fun_mk (st := topS 28) l8 c8 k8).binds (ps := ["_law_number"]) fun _ _ _ _ _ _ us hl => match us, hl with | [_], _ => rfl⟩, f__law_digit := ⟨_, _, PySem.W.mg_of X G a9, fun_mk (st := topS 29) l9 c9 k9, (fun_mk (st := topS 29) l9 c9 k9).binds (ps := ["_law_state_here", "_law_base"]) fun _ _ _ _ _ _ us hl => match us, hl with | [_, _], _ => rfl⟩, f__law_name := ⟨_, _, PySem.W.mg_of X G a10, fun_mk (st := topS 30) l10 c10 k10, (fun_mk (st := topS 30) l10 c10 k10).binds (ps := ["_law_state_here"]) fun _ _ _ _ _ _ us hl => match us, hl with | [_], _ => rfl⟩, f__law_no_name := ⟨_, _, PySem.W.mg_of X G a11, fun_mk (st := topS 31) l11 c11 k11, (fun_mk (st := topS 31) l11 c11 k11).binds (ps := ["_law_state_here"]) fun _ _ _ _ _ _ us hl => match us, hl with | [_], _ => rfl⟩, f__law_no_number := ⟨_, _, PySem.W.mg_of X G a12, fun_mk (st := topS 32) l12 c12 k12, (fun_mk (st := topS 32) l12 c12 k12).binds (ps := ["_law_state_here", "_law_most"]) fun _ _ _ _ _ _ us hl => match us, hl with | [_, _], _ => rfl⟩, f__law_spoilt := ⟨_, _, PySem.W.mg_of X G a13, fun_mk (st := topS 33) l13 c13 k13, (fun_mk (st := topS 33) l13 c13 k13).binds (ps := ["_law_state_here", "_law_told"]) fun _ _ _ _ _ _ us hl => match us, hl with | [_, _], _ => rfl⟩, f__law_refused := ⟨_, _, PySem.W.mg_of X G a14, fun_mk (st := topS 34) l14 c14 k14, (fun_mk (st := topS 34) l14 c14 k14).binds (ps := ["_law_thing"]) fun _ _ _ _ _ _ us hl => match us, hl with | [_], _ => rfl⟩ }
  exact ⟨PySem.W.fnOf "law" "law" (defArgs s_law) (defBody s_law) (defScope s_law) .none kV15 dc15 pm15 an15 cd15 ct15, fun s v => .of_eq rfl, fun base _ _ => ok_law (fun_mk (st := s_law) l15 c15 k15) T⟩
end W
open PySem PySem.W PyProof.Rows
set_option maxRecDepth 100000 in
set_option maxHeartbeats 0 in
theorem PySem.Challenge.cw_rowlent_k03_what_is_no_work_holds : PySem.Challenge.rw_rowlent_k03_what_is_no_work.Holds := by
  w_on; o_law; k_head; (case hw => w_witness2)
  k_fill
  refine L2.walk_ofK (l := PySem.Challenge.rw_rowlent_k03_what_is_no_work) (n := 63) (k := 6) (x := "_law_script") (CX := L2.CX0) (sp := W.sp_law) rfl (by decide) rfl ⟨rfl, by decide, by decide⟩ (fun w h Y => PySem.W.kIn_of Y) ?F (fun _ _ a ns hl hO hS => ⟨ns, ⟨a, rfl, hS, hl⟩, R.wf_only hO, fun _ => rfl⟩) (fun _ _ _ _ h => h)
  case F =>
    intro w mg fa h KX G hmg
    refine' W.all_mk KX G hmg ?a1 ?l1 ?c1 ?k1 ?a2 ?l2 ?c2 ?k2 ?a3 ?l3 ?c3 ?k3 ?a4 ?l4 ?c4 ?k4 ?a5 ?l5 ?c5 ?k5 ?a6 ?l6 ?c6 ?k6 ?a7 ?l7 ?c7 ?k7 ?a8 ?l8 ?c8 ?k8 ?a9 ?l9 ?c9 ?k9 ?a10 ?l10 ?c10 ?k10 ?a11 ?l11 ?c11 ?k11 ?a12 ?l12 ?c12 ?k12 ?a13 ?l13 ?c13 ?k13 ?a14 ?l14 ?c14 ?k14 ?a15 ?l15 ?c15 ?k15 ?hn0 ?ht0 ?aC_LentError ?ha_LentError ?hm_LentError ?hd_LentError ?kc_LentError ?xx_LentError ?xb_LentError ?xt_LentError ?xv_LentError ?xg_LentError ?xh_LentError ?aC_NoWork ?ha_NoWork ?hm_NoWork ?hd_NoWork ?kc_NoWork ?xx_NoWork ?xb_NoWork ?xt_NoWork ?xv_NoWork ?xg_NoWork ?xh_NoWork ?aC_IsIn ?ha_IsIn ?hm_IsIn ?hd_IsIn ?kc_IsIn ?xx_IsIn ?xb_IsIn ?xt_IsIn ?xv_IsIn ?xg_IsIn ?xh_IsIn ?aC_NoRule ?ha_NoRule ?hm_NoRule ?hd_NoRule ?kc_NoRule ?xx_NoRule ?xb_NoRule ?xt_NoRule ?xv_NoRule ?xg_NoRule ?xh_NoRule ?aC_NoTry ?ha_NoTry ?hm_NoTry ?hd_NoTry ?kc_NoTry ?xx_NoTry ?xb_NoTry ?xt_NoTry ?xv_NoTry ?xg_NoTry ?xh_NoTry ?aC_NoMoment ?ha_NoMoment ?hm_NoMoment ?hd_NoMoment ?kc_NoMoment ?xx_NoMoment ?xb_NoMoment ?xt_NoMoment ?xv_NoMoment ?xg_NoMoment ?xh_NoMoment ?aC_NoGroup ?ha_NoGroup ?hm_NoGroup ?hd_NoGroup ?kc_NoGroup ?xx_NoGroup ?xb_NoGroup ?xt_NoGroup ?xv_NoGroup ?xg_NoGroup ?xh_NoGroup ?aC_NoHouse ?ha_NoHouse ?hm_NoHouse ?hd_NoHouse ?kc_NoHouse ?xx_NoHouse ?xb_NoHouse ?xt_NoHouse ?xv_NoHouse ?xg_NoHouse ?xh_NoHouse ?aC_NoRow ?ha_NoRow ?hm_NoRow ?hd_NoRow ?kc_NoRow ?xx_NoRow ?xb_NoRow ?xt_NoRow ?xv_NoRow ?xg_NoRow ?xh_NoRow ?aC_Work ?ha_Work ?hm_Work ?hd_Work ?kc_Work ?pg_Work ?po_Work ?sa_Work ?mk_Work ?aIWork ?iIWork ?lIWork ?cIWork ?kIWork ?aMWork_told ?iMWork_told ?lMWork_told ?cMWork_told ?kMWork_told ?n_Work_name ?n_Work_house ?n_Work_ready ?n_Work_group ?n_Work_place ?aC_Loose ?ha_Loose ?hm_Loose ?hd_Loose ?kc_Loose ?pg_Loose ?po_Loose ?sa_Loose ?mk_Loose ?aILoose ?iILoose ?lILoose ?cILoose ?kILoose ?aMLoose_told ?iMLoose_told ?lMLoose_told ?cMLoose_told ?kMLoose_told ?n_Loose_name ?n_Loose_house ?n_Loose_ready ?n_Loose_group ?n_Loose_place ?aC_Grouped ?ha_Grouped ?hm_Grouped ?hd_Grouped ?kc_Grouped ?pg_Grouped ?po_Grouped ?sa_Grouped ?mk_Grouped ?aIGrouped ?iIGrouped ?lIGrouped ?cIGrouped ?kIGrouped ?aMGrouped_told ?iMGrouped_told ?lMGrouped_told ?cMGrouped_told ?kMGrouped_told ?n_Grouped_name ?n_Grouped_house ?n_Grouped_ready ?n_Grouped_group ?n_Grouped_place ?u_NoWork_LentError ?u_NoWork_IsIn ?u_NoWork_NoGroup ?u_NoWork_NoHouse ?u_NoWork_NoMoment ?u_NoWork_NoRow ?u_NoWork_NoRule ?u_NoWork_NoTry ?u_NoWork_NoWork ?s_Loose_Work ?s_Loose_Loose ?s_Loose_Grouped ?s_Grouped_Work ?s_Grouped_Loose ?s_Grouped_Grouped ?z_all ?z_isinstance ?z_str ?z_len ?z_int ?z_bool ?z_tuple ?z_range ?z_list ?z_ValueError ?z_min ?c_MOST_LETTERS ?c_LETTERS ?c_MOST_MOMENT ?c_MOST_PLACE
    (case a1 => k_is)
    (case l1 => k_is)
    (case c1 => k_is)
    (case k1 => k_is)
    (case a2 => k_is)
    (case l2 => k_is)
    (case c2 => k_is)
    (case k2 => k_is)
    (case a3 => k_is)
    (case l3 => k_is)
    (case c3 => k_is)
    (case k3 => k_is)
    (case a4 => k_is)
    (case l4 => k_is)
    (case c4 => k_is)
    (case k4 => k_is)
    (case a5 => k_is)
    (case l5 => k_is)
    (case c5 => k_is)
    (case k5 => k_is)
    (case a6 => k_is)
    (case l6 => k_is)
    (case c6 => k_is)
    (case k6 => k_is)
    (case a7 => k_is)
    (case l7 => k_is)
    (case c7 => k_is)
    (case k7 => k_is)
    (case a8 => k_is)
    (case l8 => k_is)
    (case c8 => k_is)
    (case k8 => k_is)
    (case a9 => k_is)
    (case l9 => k_is)
    (case c9 => k_is)
    (case k9 => k_is)
    (case a10 => k_is)
    (case l10 => k_is)
    (case c10 => k_is)
    (case k10 => k_is)
    (case a11 => k_is)
    (case l11 => k_is)
    (case c11 => k_is)
    (case k11 => k_is)
    (case a12 => k_is)
    (case l12 => k_is)
    (case c12 => k_is)
    (case k12 => k_is)
    (case a13 => k_is)
    (case l13 => k_is)
    (case c13 => k_is)
    (case k13 => k_is)
    (case a14 => k_is)
    (case l14 => k_is)
    (case c14 => k_is)
    (case k14 => k_is)
    (case a15 => k_is)
    (case l15 => k_is)
    (case c15 => k_is)
    (case k15 => k_is)
    (case hn0 => k_is)
    (case ht0 => k_is)
    (case aC_LentError => k_is)
    (case ha_LentError => k_is)
    (case hm_LentError => k_is)
    (case hd_LentError => k_is)
    (case kc_LentError => k_is)
    (case xx_LentError => k_exc)
    (case xb_LentError => k_is)
    (case xt_LentError => k_is)
    (case xv_LentError => k_is)
    (case xg_LentError => k_is)
    (case xh_LentError => k_is)
    (case aC_NoWork => k_is)
    (case ha_NoWork => k_is)
    (case hm_NoWork => k_is)
    (case hd_NoWork => k_is)
    (case kc_NoWork => k_is)
    (case xx_NoWork => k_exc)
    (case xb_NoWork => k_is)
    (case xt_NoWork => k_is)
    (case xv_NoWork => k_is)
    (case xg_NoWork => k_is)
    (case xh_NoWork => k_is)
    (case aC_IsIn => k_is)
    (case ha_IsIn => k_is)
    (case hm_IsIn => k_is)
    (case hd_IsIn => k_is)
    (case kc_IsIn => k_is)
    (case xx_IsIn => k_exc)
    (case xb_IsIn => k_is)
    (case xt_IsIn => k_is)
    (case xv_IsIn => k_is)
    (case xg_IsIn => k_is)
    (case xh_IsIn => k_is)
    (case aC_NoRule => k_is)
    (case ha_NoRule => k_is)
    (case hm_NoRule => k_is)
    (case hd_NoRule => k_is)
    (case kc_NoRule => k_is)
    (case xx_NoRule => k_exc)
    (case xb_NoRule => k_is)
    (case xt_NoRule => k_is)
    (case xv_NoRule => k_is)
    (case xg_NoRule => k_is)
    (case xh_NoRule => k_is)
    (case aC_NoTry => k_is)
    (case ha_NoTry => k_is)
    (case hm_NoTry => k_is)
    (case hd_NoTry => k_is)
    (case kc_NoTry => k_is)
    (case xx_NoTry => k_exc)
    (case xb_NoTry => k_is)
    (case xt_NoTry => k_is)
    (case xv_NoTry => k_is)
    (case xg_NoTry => k_is)
    (case xh_NoTry => k_is)
    (case aC_NoMoment => k_is)
    (case ha_NoMoment => k_is)
    (case hm_NoMoment => k_is)
    (case hd_NoMoment => k_is)
    (case kc_NoMoment => k_is)
    (case xx_NoMoment => k_exc)
    (case xb_NoMoment => k_is)
    (case xt_NoMoment => k_is)
    (case xv_NoMoment => k_is)
    (case xg_NoMoment => k_is)
    (case xh_NoMoment => k_is)
    (case aC_NoGroup => k_is)
    (case ha_NoGroup => k_is)
    (case hm_NoGroup => k_is)
    (case hd_NoGroup => k_is)
    (case kc_NoGroup => k_is)
    (case xx_NoGroup => k_exc)
    (case xb_NoGroup => k_is)
    (case xt_NoGroup => k_is)
    (case xv_NoGroup => k_is)
    (case xg_NoGroup => k_is)
    (case xh_NoGroup => k_is)
    (case aC_NoHouse => k_is)
    (case ha_NoHouse => k_is)
    (case hm_NoHouse => k_is)
    (case hd_NoHouse => k_is)
    (case kc_NoHouse => k_is)
    (case xx_NoHouse => k_exc)
    (case xb_NoHouse => k_is)
    (case xt_NoHouse => k_is)
    (case xv_NoHouse => k_is)
    (case xg_NoHouse => k_is)
    (case xh_NoHouse => k_is)
    (case aC_NoRow => k_is)
    (case ha_NoRow => k_is)
    (case hm_NoRow => k_is)
    (case hd_NoRow => k_is)
    (case kc_NoRow => k_is)
    (case xx_NoRow => k_exc)
    (case xb_NoRow => k_is)
    (case xt_NoRow => k_is)
    (case xv_NoRow => k_is)
    (case xg_NoRow => k_is)
    (case xh_NoRow => k_is)
    (case aC_Work => k_is)
    (case ha_Work => k_is)
    (case hm_Work => k_is)
    (case hd_Work => k_is)
    (case kc_Work => k_is)
    (case pg_Work => k_is)
    (case po_Work => k_is)
    (case sa_Work => k_is)
    (case mk_Work => k_is)
    (case aIWork => k_is)
    (case iIWork => k_is)
    (case lIWork => k_is)
    (case cIWork => k_is)
    (case kIWork => k_is)
    (case aMWork_told => k_is)
    (case iMWork_told => k_is)
    (case lMWork_told => k_is)
    (case cMWork_told => k_is)
    (case kMWork_told => k_is)
    (case n_Work_name => k_is)
    (case n_Work_house => k_is)
    (case n_Work_ready => k_is)
    (case n_Work_group => k_is)
    (case n_Work_place => k_is)
    (case aC_Loose => k_is)
    (case ha_Loose => k_is)
    (case hm_Loose => k_is)
    (case hd_Loose => k_is)
    (case kc_Loose => k_is)
    (case pg_Loose => k_is)
    (case po_Loose => k_is)
    (case sa_Loose => k_is)
    (case mk_Loose => k_is)
    (case aILoose => k_is)
    (case iILoose => k_is)
    (case lILoose => k_is)
    (case cILoose => k_is)
    (case kILoose => k_is)
    (case aMLoose_told => k_is)
    (case iMLoose_told => k_is)
    (case lMLoose_told => k_is)
    (case cMLoose_told => k_is)
    (case kMLoose_told => k_is)
    (case n_Loose_name => k_is)
    (case n_Loose_house => k_is)
    (case n_Loose_ready => k_is)
    (case n_Loose_group => k_is)
    (case n_Loose_place => k_is)
    (case aC_Grouped => k_is)
    (case ha_Grouped => k_is)
    (case hm_Grouped => k_is)
    (case hd_Grouped => k_is)
    (case kc_Grouped => k_is)
    (case pg_Grouped => k_is)
    (case po_Grouped => k_is)
    (case sa_Grouped => k_is)
    (case mk_Grouped => k_is)
    (case aIGrouped => k_is)
    (case iIGrouped => k_is)
    (case lIGrouped => k_is)
    (case cIGrouped => k_is)
    (case kIGrouped => k_is)
    (case aMGrouped_told => k_is)
    (case iMGrouped_told => k_is)
    (case lMGrouped_told => k_is)
    (case cMGrouped_told => k_is)
    (case kMGrouped_told => k_is)
    (case n_Grouped_name => k_is)
    (case n_Grouped_house => k_is)
    (case n_Grouped_ready => k_is)
    (case n_Grouped_group => k_is)
    (case n_Grouped_place => k_is)
    (case u_NoWork_LentError => first | rfl | k_is)
    (case u_NoWork_IsIn => first | rfl | k_is)
    (case u_NoWork_NoGroup => first | rfl | k_is)
    (case u_NoWork_NoHouse => first | rfl | k_is)
    (case u_NoWork_NoMoment => first | rfl | k_is)
    (case u_NoWork_NoRow => first | rfl | k_is)
    (case u_NoWork_NoRule => first | rfl | k_is)
    (case u_NoWork_NoTry => first | rfl | k_is)
    (case u_NoWork_NoWork => first | rfl | k_is)
    (case s_Loose_Work => first | rfl | k_is)
    (case s_Loose_Loose => first | rfl | k_is)
    (case s_Loose_Grouped => first | rfl | k_is)
    (case s_Grouped_Work => first | rfl | k_is)
    (case s_Grouped_Loose => first | rfl | k_is)
    (case s_Grouped_Grouped => first | rfl | k_is)
    (case z_all => k_is)
    (case z_isinstance => k_is)
    (case z_str => k_is)
    (case z_len => k_is)
    (case z_int => k_is)
    (case z_bool => k_is)
    (case z_tuple => k_is)
    (case z_range => k_is)
    (case z_list => k_is)
    (case z_ValueError => k_is)
    (case z_min => k_is)
    (case c_MOST_LETTERS => k_is)
    (case c_LETTERS => k_is)
    (case c_MOST_MOMENT => k_is)
    (case c_MOST_PLACE => k_is)
