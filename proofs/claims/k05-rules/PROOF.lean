import PyProof.Rows.All
import Wide.All
import OpenK.AllK
import Wide.FinOn
import HandS.ForMost
import HandS.ForExc
import HandS.IsInst
import HandS.Wide
import HandS.Flow
import HandS.Walk
import HandS.Codes
import HandS.Conv
import HandS.WordsExc
import HandS.ExcOwn
import HandS.ExcIs
import HandS.TryOnly
import HandS.TryMany
import HandS.WordsDict
import HandS.Style
import HandS.Deep
import HandS.TupAny
import HandS.TupMul
import PyProof.StrBlock2
import PySem.Challenge.RW_rowlent_k05_what_is_a_rule
set_option Elab.async false
set_option linter.all false
set_option maxRecDepth 100000
set_option maxHeartbeats 4000000

namespace R
open PySem PySem.Spec PyProof.Rows L2
/-! ### heaps that may be cut back to what is wanted -/
def Flat : HO → Prop
  | .dT kvs => kvs = []
  | .ins _ _ _ => False
  | .frz _ u => Flat u
  | _ => True
def Wf (H : Hp) : Prop := ∀ a o, H a = some o → Flat o ∨ ∃ C dx fs, o = .ins C dx fs ∧ H dx = some (.own a)
theorem flat_ok {P : Program} {w : World} {H H2 : Hp} {h : Heap} {a : Addr} {o : HO} (f : Flat o) (x : ObjOk P w H h a o) : ObjOk P w H2 h a o := by
  induction o with
  | dT kvs =>
    have e : kvs = [] := f
    subst e
    obtain ⟨z, y, xs, r, q⟩ := x
    cases r
    exact ⟨z, y, [], .nil, q⟩
  | ins C dx fs => exact f.elim
  | frz ob u ih => exact ⟨x.1, ih f x.2⟩
  | lst xs => exact x
  | tup xs => exact x
  | dK kvs => exact x
  | set S n => exact x
  | own y => exact x
  | xd fs => exact x
  | met g y => exact x
  | rng lo hi => exact x
  | tbl ps => exact x
  | ext φ => exact x
/-- H2: what is kept of H' behind a piece of code that began in H -/
structure Back (H H2 H' : Hp) : Prop where
  sub : ∀ a o, H2 a = some o → H' a = some o
  kp : ∀ a o, H a = some o → H2 a = H' a
  wf : Wf H2
theorem Back.refl {H H' : Hp} (w : Wf H') : Back H H' H' := ⟨fun _ _ h => h, fun _ _ _ => rfl, w⟩
theorem Back.hok {P : Program} {w : World} {H H2 H' : Hp} {h : Heap} (b : Back H H2 H') (x : HOk P w H' h) : HOk P w H2 h := fun a o e => by
  have q := x a o (b.sub a o e)
  rcases b.wf a o e with f | ⟨C, dx, fs, rfl, hd⟩
  · exact flat_ok f q
  · obtain ⟨_, z⟩ := q
    exact ⟨hd, z⟩
theorem Back.un {fs ex : List Addr} {H0 H H2 H' : Hp} {h h' : Heap} (b : Back H H2 H') (u0 : ∀ a o, H0 a = some o → (∀ xs, o = .tup xs → H a = some o) ∧ (∀ z y, o = .frz z y → H a = some o) ∧ (∀ ps, o = .tbl ps → ∃ m, H a = some (.tbl m)))
    (u : Un fs ex H0 H' h h') : Un fs ex H0 H2 h h' where
  keep := u.keep
  slot := u.slot
  there := u.there
  free := fun c ob q n hx => by
    have z := u.free c ob q n hx
    cases e : H2 c with
    | none => rfl
    | some x =>
      have y := b.sub c x e
      rw [z] at y
      cases y
  tups := fun c xs q => by
    have z := (u0 c _ q).1 xs rfl
    rw [b.kp c _ z]
    exact u.tups c xs q
  frzs := fun c ob x q => by
    have z := (u0 c _ q).2.1 ob x rfl
    rw [b.kp c _ z]
    exact u.frzs c ob x q
  tbls := fun c ps q => by
    obtain ⟨m, z⟩ := (u0 c _ q).2.2 ps rfl
    rw [b.kp c _ z]
    exact u.tbls c ps q
theorem Back.un0 {fs ex : List Addr} {H H2 H' : Hp} {h h' : Heap} (b : Back H H2 H') (u : Un fs ex H H' h h') : Un fs ex H H2 h h' :=
  b.un (fun a o e => ⟨fun xs r => e, fun _ _ _ => e, fun ps r => ⟨ps, by rw [e, r]⟩⟩) u
theorem Back.ub {fs : List Addr} {H H2 H' : Hp} {h B h' : Heap} (b : Back H H2 H') (u : UB fs H H' h B h') : UB fs H H2 h B h' where
  keep := u.keep
  slot := u.slot
  there := u.there
  free := fun c ob q n => by
    have z := u.free c ob q n
    cases e : H2 c with
    | none => rfl
    | some x =>
      have y := b.sub c x e
      rw [z] at y
      cases y
  tups := fun c xs q => by
    rw [b.kp c _ q]
    exact u.tups c xs q
  frzs := fun c ob x q => by
    rw [b.kp c _ q]
    exact u.frzs c ob x q
  tbls := fun c ps q => by
    rw [b.kp c _ q]
    exact u.tbls c ps q
def bQ (H : Hp) (Q : VK) : VK := fun v H' => ∃ H2, Back H H2 H' ∧ Q v H2
def bE (H : Hp) (E : XK) : XK := fun c d H' => ∃ H2, Back H H2 H' ∧ E c d H2
theorem bQ.mk {H : Hp} {Q : VK} {v : V} {H' : Hp} (w : Wf H') (q : Q v H') : bQ H Q v H' := ⟨H', Back.refl w, q⟩
section
variable {P : Program} {w : World} {K : PySem.W.Frag} {mg : Str → Option Value} {base : Heap} {k : Nat} {f : Addr} {fd : FuncData} {ps : List Str} {sp : Sp}
theorem ce_back {outer : List Env} {H : Hp} {s s' : Shared} {Q : VK} {u : Value} (h : CE outer P w H s (bQ H Q) u s') : CE outer P w H s Q u s' := by
  obtain ⟨v, H', os, bare, un, hok, r, H2, b, q⟩ := h
  exact ⟨v, H2, os, bare, b.un0 un, b.hok hok, r, q⟩
theorem cx_back {outer : List Env} {H : Hp} {s s' : Shared} {E : XK} {u : Value} (h : L2.CX P w outer H s (bE H E) u s') : L2.CX P w outer H s E u s' := by
  obtain ⟨a, B, H', cls, d, e, fl, hok, ub, na, os, ag, H2, b, q⟩ := h
  refine ⟨a, B, H2, cls, d, e, fl, b.hok hok, b.ub ub, ?_, os, ag, q⟩
  cases z : H2 a with
  | none => rfl
  | some x =>
    have y := b.sub a x z
    rw [na] at y
    cases y
/-- a promise over a heap that is cut back -/
def spB (sp : Sp) : Sp := fun vs H Q' E' => ∃ Q E, Q' = bQ H Q ∧ E' = bE H E ∧ sp vs H Q E
theorem fn_backX (F : FnOk P w K mg base (L2.CX P w) k f fd ps (spB sp)) : FnOk P w K mg base (L2.CX P w) k f fd ps sp := by
  refine ⟨fun vs H Q E q => F.len vs H (bQ H Q) (bE H E) ⟨Q, E, rfl, rfl, q⟩, fun A outer s H args us vs Q E hr he hb hv hs => ?_⟩
  refine codeAny_mono (F.run A outer s H args us vs (bQ H Q) (bE H E) hr he hb hv ⟨Q, E, rfl, rfl, hs⟩) fun r s' hq => ?_
  cases r with
  | error e => exact cx_back hq
  | ok fl =>
    cases fl with
    | ret u => exact ce_back hq
    | next => exact hq
    | brk => exact hq
    | cont => exact hq
theorem fn_back (F : FnOk P w K mg base CX0 k f fd ps (spB sp)) : FnOk P w K mg base CX0 k f fd ps sp := by
  refine ⟨fun vs H Q E q => F.len vs H (bQ H Q) (bE H E) ⟨Q, E, rfl, rfl, q⟩, fun A outer s H args us vs Q E hr he hb hv hs => ?_⟩
  refine codeAny_mono (F.run A outer s H args us vs (bQ H Q) (bE H E) hr he hb hv ⟨Q, E, rfl, rfl, hs⟩) fun r s' hq => ?_
  cases r with
  | error e => exact hq
  | ok fl =>
    cases fl with
    | ret u => exact ce_back hq
    | next => exact hq
    | brk => exact hq
    | cont => exact hq
end
/-- a def that raises nothing, by its body; the heap behind it cut back -/
theorem ok0 {P : Program} {w : World} {K : PySem.W.Frag} {mg : Str → Option Value} {base : Heap} {x qual : Str} {st : Stmt} {f : Addr} {fd : FuncData} {N ps : List Str} {k : Nat} {sp : Sp} (F : Fun K x qual st f fd) (S : FnScope N ps (defScope st)) (len : ∀ vs H Q E, sp vs H Q E → vs.length = ps.length)
    (hbody : ∀ (cdv : Value) (A : Around) (outer : List Env) (s : Shared) (H : Hp) (vs : List V) (Q : VK) (E : XK), Room k (A.deeper (envOfC qual (defScope st) s.heap.objs.size f cdv)) → sp vs H Q E →
      ∃ t, PSs (cxOf CX0 P w K mg base N qual (defScope st) f cdv A outer s H E).nox (defBody st) t ∧ t { nx := fun _ H' => bQ H Q .non H', rt := bQ H Q } (start N vs) H) : FnOk P w K mg base CX0 (k + 1) f fd ps sp := by
  refine fn_back (F.ok S (fun vs H Q E h => ?_) fun cdv A outer s H vs Q' E' hr h => ?_)
  · obtain ⟨Q, E, _, _, q⟩ := h
    exact len vs H Q E q
  · obtain ⟨Q, E, rfl, rfl, q⟩ := h
    exact hbody cdv A outer s H vs Q E hr q
/-- .. that may raise -/
theorem okX {P : Program} {w : World} {K : PySem.W.Frag} {mg : Str → Option Value} {base : Heap} {x qual : Str} {st : Stmt} {f : Addr} {fd : FuncData} {N ps : List Str} {k : Nat} {sp : Sp} (F : Fun K x qual st f fd) (S : FnScope N ps (defScope st)) (len : ∀ vs H Q E, sp vs H Q E → vs.length = ps.length)
    (hbody : ∀ (cdv : Value) (A : Around) (outer : List Env) (s : Shared) (H : Hp) (vs : List V) (Q : VK) (E : XK), Room k (A.deeper (envOfC qual (defScope st) s.heap.objs.size f cdv)) → sp vs H Q E →
      ∃ t, PSs (cxOf (L2.CX P w) P w K mg base N qual (defScope st) f cdv A outer s H (bE H E)) (defBody st) t ∧ t { nx := fun _ H' => bQ H Q .non H', rt := bQ H Q } (start N vs) H) : FnOk P w K mg base (L2.CX P w) (k + 1) f fd ps sp := by
  refine fn_backX (F.okX S (fun vs H Q E h => ?_) fun cdv A outer s H vs Q' E' hr h => ?_)
  · obtain ⟨Q, E, _, _, q⟩ := h
    exact len vs H Q E q
  · obtain ⟨Q, E, rfl, rfl, q⟩ := h
    exact hbody cdv A outer s H vs Q E hr q
section
variable {X : Cx}
/-- the heap behind an expression, a block, cut back -/
def tBack (t : TE) : TE := fun σ H Q => t σ H (bQ H Q)
theorem inv_back {pins : List (Addr × Obj)} {σ : L2.St} {σ0 : L2.St} {H H2 H' : Hp} {s s0 : Shared} (I0 : Inv X pins σ0 H s0) (b : Back H H2 H') (I : Inv X pins σ H' s) : Inv X pins σ H2 s := by
  have fr : ∀ c, H' c = none → H2 c = none := fun c z => by
    cases e : H2 c with
    | none => rfl
    | some x =>
      have y := b.sub c x e
      rw [z] at y
      cases y
  refine ⟨I.ok, I.os, I.bare, b.un (fun a o e => ⟨fun xs r => ?_, fun z y r => ?_, fun ps r => ?_⟩) I.base, I.loc, I.cell, fr _ I.free, fun x c e => fr _ (I.freeC x c e), fun p hp => ?_, b.hok I.hok, I.len⟩
  · subst r
    exact I0.base.tups a xs e
  · subst r
    exact I0.base.frzs a z y e
  · subst r
    obtain ⟨m, h⟩ := I0.base.tbls a ps e
    exact ⟨_, h⟩
  · obtain ⟨a1, a2, a3⟩ := I.pin p hp
    exact ⟨a1, fr _ a2, a3⟩
theorem pe_back {e : Expr} {t : TE} (h : PE X e t) : PE X e (tBack t) := by
  refine ⟨fun pins s σ H Q I q => ?_⟩
  refine thn (h.run pins s σ H _ I q) fun u s1 z => ?_
  obtain ⟨v, H1, I1, r1, H2, b, q2⟩ := z
  exact ⟨v, H2, inv_back I b I1, r1, q2⟩
def bD (H : Hp) (D : Ends) : Ends := { nx := fun σ H' => ∃ H2, Back H H2 H' ∧ D.nx σ H2, rt := bQ H D.rt, bk := fun σ H' => ∃ H2, Back H H2 H' ∧ D.bk σ H2, ct := fun σ H' => ∃ H2, Back H H2 H' ∧ D.ct σ H2 }
def sBack (t : TS) : TS := fun D σ H => t (bD H D) σ H
theorem sp_back {pins : List (Addr × Obj)} {σ : L2.St} {H : Hp} {D : Ends} {s s1 : Shared} {f : Flow} (I : Inv X pins σ H s) (z : SP X pins (bD H D) f s1) : SP X pins D f s1 := by
  cases f with
  | next =>
    obtain ⟨σ', H', I', H2, b, q⟩ := z
    exact ⟨σ', H2, inv_back I b I', q⟩
  | brk =>
    obtain ⟨σ', H', I', H2, b, q⟩ := z
    exact ⟨σ', H2, inv_back I b I', q⟩
  | cont =>
    obtain ⟨σ', H', I', H2, b, q⟩ := z
    exact ⟨σ', H2, inv_back I b I', q⟩
  | ret u =>
    obtain ⟨v, σ', H', I', r, H2, b, q⟩ := z
    exact ⟨v, σ', H2, inv_back I b I', r, q⟩
theorem pss_back {b : List Stmt} {t : TS} (h : PSs X b t) : PSs X b (sBack t) := ⟨fun pins s σ H D I q => thn (h.run pins s σ H _ I q) fun _ _ z => sp_back I z⟩
theorem ps_back {b : Stmt} {t : TS} (h : PS X b t) : PS X b (sBack t) := ⟨fun pins s σ H D I q => thn (h.run pins s σ H _ I q) fun _ _ z => sp_back I z⟩
end
end R
namespace R
open PySem PySem.Spec PyProof.Rows L2
/-! ### readings that reckon: what can be seen is done by whnf, what is left stands as a want -/
theorem imp_e {X : Cx} {e : Expr} {t t' : TE} (h : PE X e t) (i : ∀ σ H Q, t' σ H Q → t σ H Q) : PE X e t' := ⟨fun pins s σ H Q I q => h.run pins s σ H Q I (i σ H Q q)⟩
theorem imp_t {X : Cx} {e : Expr} {t t' : TT} (h : PT X e t) (i : ∀ σ H Q, t' σ H Q → t σ H Q) : PT X e t' := ⟨fun pins s σ H Q I q => h.run pins s σ H Q I (i σ H Q q)⟩
theorem imp_s {X : Cx} {e : Stmt} {t t' : TS} (h : PS X e t) (i : ∀ D σ H, t' D σ H → t D σ H) : PS X e t' := ⟨fun pins s σ H D I q => h.run pins s σ H D I (i D σ H q)⟩
theorem imp_o {X : Cx} {f : Value → Value → Sem Value} {r r' : R2} (h : OpR X f r) (i : ∀ x y H Q, r' x y H Q → r x y H Q) : OpR X f r' := fun pins s σ H x y v u Q I rx ry q => h pins s σ H x y v u Q I rx ry (i x y H Q q)
theorem imp_c {X : Cx} {f : Value} {r r' : List V → Hp → VK → Prop} (h : CallR X f r) (i : ∀ xs H Q, r' xs H Q → r xs H Q) : CallR X f r' := fun pins s σ H xs us Q I rx q => h pins s σ H xs us Q I rx (i xs H Q q)
theorem imp_g {X : Cx} {e : Expr} {t t' : TG} (h : PG X e t) (i : ∀ v σ H Q, t' v σ H Q → t v σ H Q) : PG X e t' := ⟨fun pins s σ H v u Q I r q => h.run pins s σ H v u Q I r (i v σ H Q q)⟩
/-- a name -/
def cVar (i : Nat) : TE := fun σ H Q => match σ[i]? with | some (some v) => Q v H | _ => False
theorem lv {X : Cx} (i : Nat) {x : Str} {pos : Pos} (hN : X.N[i]? = some x := by rfl) (hv : Vis X.env.scope x := by first | exact Or.inl rfl | exact Or.inr (Or.inl rfl) | exact Or.inr (Or.inr rfl)) (hd : (x == ("__debug__" : Str)) = false := by decide)
    (hcd : (x == ("__classdict__" : Str)) = false := by decide) : PE X (.Name x pos) (cVar i) := imp_e (pe_var hN hv hd hcd) fun σ H Q q => by
  unfold cVar at q
  split at q
  · rename_i v e
    exact ⟨v, e, q⟩
  · exact q.elim
/-- a name of the module's top -/
def GlV (mg : Str → Option Value) (x : Str) (v : V) : Prop := ∃ u, mg x = some u ∧ RelV v u
theorem pe_g {X : Cx} {x : Str} {v : V} {pos : Pos} (h : GlV X.mg x v) (hg : Gl X x := by rfl) (hd : (x == ("__debug__" : Str)) = false := by decide) : PE X (.Name x pos) (tC v) := by
  obtain ⟨u, h1, h2⟩ := h
  exact pe_glob hg h1 h2 hd
/-- tests -/
def cTest (t : TE) : TT := fun σ H Q => t σ H fun x H' => match x with | .bl k => Q k H' | _ => False
section
variable {X : Cx} {a b c e : Expr} {ta tb tc te : TE} {tt : TT} {rest : List Expr} {pos : Pos}
theorem imp_Q {X : Cx} {e : Expr} {t : TE} {R R' : V → Hp → Prop} : True := trivial
end
/-- a reading that may be weakened at its end -/
def Mono (t : TE) : Prop := ∀ σ H (Q Q' : VK), (∀ v H', Q v H' → Q' v H') → t σ H Q → t σ H Q'
theorem run_mono {X : Cx} {e : Expr} {t : TE} (h : PE X e t) {t' : TE} (i : ∀ σ H Q, t' σ H Q → ∃ Q0 : VK, (∀ v H', Q0 v H' → Q v H') ∧ t σ H Q0) : PE X e t' := ⟨fun pins s σ H Q I q => by
  obtain ⟨Q0, w, z⟩ := i σ H Q q
  exact thn (h.run pins s σ H Q0 I z) fun u s1 ⟨v, H1, I1, r, q1⟩ => ⟨v, H1, I1, r, w v H1 q1⟩⟩
theorem run_monoT {X : Cx} {e : Expr} {t : TT} (h : PT X e t) {t' : TT} (i : ∀ σ H Q, t' σ H Q → ∃ Q0 : Bool → Hp → Prop, (∀ v H', Q0 v H' → Q v H') ∧ t σ H Q0) : PT X e t' := ⟨fun pins s σ H Q I q => by
  obtain ⟨Q0, w, z⟩ := i σ H Q q
  exact thn (h.run pins s σ H Q0 I z) fun u s1 ⟨H1, I1, q1⟩ => ⟨H1, I1, w u H1 q1⟩⟩
section
variable {X : Cx} {a b c e : Expr} {ta tb tc te : TE} {tt : TT} {rest : List Expr} {pos : Pos}
theorem testM {Q : Bool → Hp → Prop} : ∀ (v : V) (H' : Hp), (match v with | .bl k => Q k H' | _ => False) → ∃ k, v = .bl k ∧ Q k H'
  | .bl k, _, q => ⟨k, rfl, q⟩
  | .non, _, q => q.elim
  | .int _, _, q => q.elim
  | .str _, _, q => q.elim
  | .byt _, _, q => q.elim
  | .flt _, _, q => q.elim
  | .ref _, _, q => q.elim
  | .ty _, _, q => q.elim
/-- an expression that gives a bool, as a test -/
theorem pt_cmpU {op : CmpOp} {r : R2} (ho : OpR X (compareOp op) r) (ha : PE X a ta) (hb : PE X b tb) (hm : behindInMarks op b = false) : PT X (.Compare a [op] [b] pos) (cTest (tOp r ta tb)) := by
  refine ⟨fun pins s σ H Q I q => ?_⟩
  have ho' : OpR X (compareOp op) (fun x y H Q => ∃ Q0 : VK, (∀ v H', Q0 v H' → Q v H') ∧ r x y H Q0) := by
    intro pins s σ H x y v u Q I rx ry h
    obtain ⟨Q0, w, z⟩ := h
    exact thn (ho pins s σ H x y v u Q0 I rx ry z) fun u s1 ⟨v, H1, I1, r, q1⟩ => ⟨v, H1, I1, r, w v H1 q1⟩
  have ha' : PE X a (fun σ H Q => ∃ Q0 : VK, (∀ v H', Q0 v H' → Q v H') ∧ ta σ H Q0) := run_mono ha fun _ _ _ z => z
  have hb' : PE X b (fun σ H Q => ∃ Q0 : VK, (∀ v H', Q0 v H' → Q v H') ∧ tb σ H Q0) := run_mono hb fun _ _ _ z => z
  refine (pt_cmpR ho' ha' hb' hm).run pins s σ H Q I ?_
  exact ⟨_, fun x H1 z => ⟨_, fun y H2 z2 => ⟨_, fun v H3 z3 => testM v H3 z3, z2⟩, z⟩, q⟩
def cChain (r r' : R2) (ta tb tc : TE) : TE := fun σ H Q => ta σ H fun x H1 => tb σ H1 fun y H2 => r x y H2 fun z H3 => match z with
  | .bl k => if k = true then tc σ H3 fun w' H4 => r' y w' H4 Q else Q (.bl false) H3
  | _ => False
theorem chM {A : Bool → Hp → Prop} : ∀ (v : V) (H' : Hp), (match v with | .bl k => A k H' | _ => False) → ∃ k, v = .bl k ∧ A k H' := fun v H' q => testM v H' q
theorem mono_o {f : Value → Value → Sem Value} {r : R2} (ho : OpR X f r) : OpR X f (fun x y H Q => ∃ Q0 : VK, (∀ v H', Q0 v H' → Q v H') ∧ r x y H Q0) := by
  intro pins s σ H x y v u Q I rx ry h
  obtain ⟨Q0, w, z⟩ := h
  exact thn (ho pins s σ H x y v u Q0 I rx ry z) fun u s1 ⟨v, H1, I1, r, q1⟩ => ⟨v, H1, I1, r, w v H1 q1⟩
theorem mono_e {e : Expr} {t : TE} (h : PE X e t) : PE X e (fun σ H Q => ∃ Q0 : VK, (∀ v H', Q0 v H' → Q v H') ∧ t σ H Q0) := run_mono h fun _ _ _ z => z
theorem mono_t {e : Expr} {t : TT} (h : PT X e t) : PT X e (fun σ H Q => ∃ Q0 : Bool → Hp → Prop, (∀ v H', Q0 v H' → Q v H') ∧ t σ H Q0) := run_monoT h fun _ _ _ z => z
theorem pe_chainU {op op' : CmpOp} {r r' : R2} (ho : OpR X (compareOp op) r) (ho' : OpR X (compareOp op') r') (ha : PE X a ta) (hb : PE X b tb) (hc : PE X c tc)
    (hm : lastMarks [op, op'] [b, c] = false := by with_unfolding_all rfl) : PE X (.Compare a [op, op'] [b, c] pos) (cChain r r' ta tb tc) :=
  imp_e (pe_chain (mono_o ho) ho' (mono_e ha) (mono_e hb) hc hm) fun σ H Q q => ⟨_, fun x H1 z => ⟨_, fun y H2 z2 => ⟨_, fun v H3 z3 => testM (Q := fun k H3 => if k = true then tc σ H3 fun w' H4 => r' y w' H4 Q else Q (.bl false) H3) v H3 z3, z2⟩, z⟩, q⟩
theorem pt_chainU {op op' : CmpOp} {r r' : R2} (ho : OpR X (compareOp op) r) (ho' : OpR X (compareOp op') r') (ha : PE X a ta) (hb : PE X b tb) (hc : PE X c tc)
    (hm : lastMarks [op, op'] [b, c] = false := by with_unfolding_all rfl) : PT X (.Compare a [op, op'] [b, c] pos) (cTest (cChain r r' ta tb tc)) := by
  refine imp_t (pt_chain (mono_o ho) (mono_o ho') (mono_e ha) (mono_e hb) (mono_e hc) hm) fun σ H Q q => ?_
  refine ⟨_, fun x H1 z => ⟨_, fun y H2 z2 => ⟨_, fun v H3 z3 => ?_, z2⟩, z⟩, q⟩
  obtain ⟨k, e, z4⟩ := testM (Q := fun k H3 => if k = true then tc σ H3 fun w' H4 => r' y w' H4 _ else _) v H3 z3
  refine ⟨k, e, ?_⟩
  cases k with
  | true =>
    rw [if_pos rfl] at z4 ⊢
    exact ⟨_, fun w' H4 z5 => ⟨_, fun v H5 z6 => testM v H5 z6, z5⟩, z4⟩
  | false =>
    rw [if_neg Bool.false_ne_true] at z4 ⊢
    exact ⟨false, rfl, z4⟩
/-- a value's truth -/
def cTru (K : PySem.W.Frag) (x : V) (H : Hp) (Q : Bool → Hp → Prop) : Prop := match x with
  | .non => Q false H
  | .bl b => Q b H
  | .int i => Q (i != 0) H
  | .str y => y.length ≤ sizeLine ∧ Q ((y.length : Int) != 0) H
  | .ref p => ∃ k, TruV K (.ref p) H k ∧ Q k H
  | _ => False
theorem cTru.ex {K : PySem.W.Frag} {x : V} {H : Hp} {Q : Bool → Hp → Prop} (h : cTru K x H Q) : ∃ k, TruV K x H k ∧ Q k H := by
  cases x with
  | non => exact ⟨false, rfl, h⟩
  | bl b => exact ⟨b, rfl, h⟩
  | int i => exact ⟨_, rfl, h⟩
  | str y => exact ⟨_, ⟨h.1, rfl⟩, h.2⟩
  | ref p => exact h
  | byt _ => exact h.elim
  | flt _ => exact h.elim
  | ty _ => exact h.elim
def cAnd (K : PySem.W.Frag) (ta tb : TE) : TE := fun σ H Q => ta σ H fun x H1 => cTru K x H1 fun k H1 => if k = true then tb σ H1 Q else Q x H1
def cOr (K : PySem.W.Frag) (ta tb : TE) : TE := fun σ H Q => ta σ H fun x H1 => cTru K x H1 fun k H1 => if k = true then Q x H1 else tb σ H1 Q
def cNot (K : PySem.W.Frag) (ta : TE) : TE := fun σ H Q => ta σ H fun x H1 => cTru K x H1 fun k H1 => Q (.bl (!k)) H1
def cTruth (K : PySem.W.Frag) (ta : TE) : TT := fun σ H Q => ta σ H fun x H1 => cTru K x H1 Q
theorem cTru.at {K : PySem.W.Frag} {x : V} {H : Hp} {Q : Bool → Hp → Prop} (h : cTru K x H Q) : ∃ k, TruV K x H k ∧ Q k H := h.ex
theorem pe_andU {K : PySem.W.Frag} (ha : PE X a ta) (hb : PE X (.BoolOp .And (b :: rest) pos) tb) (hK : X.K = K := by rfl) : PE X (.BoolOp .And (a :: b :: rest) pos) (cAnd K ta tb) :=
  hK ▸ imp_e (pe_andT (mono_e ha) hb) fun σ H Q q => ⟨_, fun x H1 z => (cTru.at z : ∃ k, TruV X.K x H1 k ∧ if k = true then tb σ H1 Q else Q x H1), q⟩
theorem pe_orU {K : PySem.W.Frag} (ha : PE X a ta) (hb : PE X (.BoolOp .Or (b :: rest) pos) tb) (hK : X.K = K := by rfl) : PE X (.BoolOp .Or (a :: b :: rest) pos) (cOr K ta tb) :=
  hK ▸ imp_e (pe_orT (mono_e ha) hb) fun σ H Q q => ⟨_, fun x H1 z => (cTru.at z : ∃ k, TruV X.K x H1 k ∧ if k = true then Q x H1 else tb σ H1 Q), q⟩
theorem pe_notU {K : PySem.W.Frag} (ha : PE X a ta) (hK : X.K = K := by rfl) : PE X (.UnaryOp .Not a pos) (cNot K ta) :=
  hK ▸ imp_e (pe_notT (mono_e ha)) fun σ H Q q => ⟨_, fun x H1 z => (cTru.at z : ∃ k, TruV X.K x H1 k ∧ Q (.bl (!k)) H1), q⟩
theorem pt_truthU {K : PySem.W.Frag} (ha : PE X a ta) (he : ∀ whole, isTrue a X.env whole = (do let v ← whole; standAt a.pos; holding [v] (truthy v))) (hK : X.K = K := by rfl) : PT X a (cTruth K ta) :=
  hK ▸ imp_t (pt_truth (mono_e ha) he) fun σ H Q q => ⟨_, fun x H1 z => (cTru.at z : ∃ k, TruV X.K x H1 k ∧ Q k H1), q⟩
end
/-! ### operators -/
section
variable {X : Cx}
def rAddU (K : PySem.W.Frag) : R2 := fun x y H Q => match x, y with
  | .int i, .int j => Q (.int (i + j)) H
  | .str a, .str b => a.length + b.length ≤ sizeLine ∧ Q (.str (a ++ b)) H
  | .ref a, .ref b => rCat (.ref a) (.ref b) H Q ∨ rCatT K (.ref a) (.ref b) H Q
  | _, _ => False
theorem opU_add {K : PySem.W.Frag} (hK : X.K = K := by rfl) : OpR X (binaryOp .Add) (rAddU K) := hK ▸ imp_o (op_add.or (op_add_str.or (op_cat.or op_catT))) fun x y H Q q => by
  unfold rAddU at q
  split at q
  · exact .inl ⟨_, _, rfl, rfl, q⟩
  · exact .inr (.inl ⟨_, _, rfl, rfl, q.1, q.2⟩)
  · exact .inr (.inr q)
  · exact q.elim
def rSubU : R2 := fun x y H Q => match x, y with
  | .int i, .int j => Q (.int (i - j)) H
  | _, _ => False
theorem opU_sub : OpR X (binaryOp .Sub) rSubU := imp_o op_sub fun x y H Q q => by
  unfold rSubU at q
  split at q
  · exact ⟨_, _, rfl, rfl, q⟩
  · exact q.elim
def rMulU : R2 := fun x y H Q => match x, y with
  | .int i, .int j => (CMul i j ∨ CMulW i j) ∧ Q (.int (i * j)) H
  | .ref a, .int k => rRep (.ref a) (.int k) H Q
  | _, _ => False
theorem opU_mul : OpR X (binaryOp .Mult) rMulU := imp_o (op_mul.or (op_mulW.or op_rep)) fun x y H Q q => by
  unfold rMulU at q
  split at q
  · rcases q.1 with c | c
    · exact .inl ⟨_, _, rfl, rfl, c, q.2⟩
    · exact .inr (.inl ⟨_, _, rfl, rfl, c, q.2⟩)
  · exact .inr (.inr q)
  · exact q.elim
def rModU : R2 := fun x y H Q => match x, y with
  | .int i, .int j => 0 < j ∧ Q (.int (i % j)) H
  | _, _ => False
theorem opU_mod : OpR X (binaryOp .Mod) rModU := imp_o op_mod fun x y H Q q => by
  unfold rModU at q
  split at q
  · exact ⟨_, _, rfl, rfl, q.1, q.2⟩
  · exact q.elim
def rDivU : R2 := fun x y H Q => match x, y with
  | .int i, .int j => CDivW i j ∧ Q (.int (i / j)) H
  | _, _ => False
theorem opU_div : OpR X (binaryOp .FloorDiv) rDivU := imp_o op_fdivW fun x y H Q q => by
  unfold rDivU at q
  split at q
  · exact ⟨_, _, rfl, rfl, q.1, q.2⟩
  · exact q.elim
def rPowU : R2 := fun x y H Q => match x, y with
  | .int i, .int j => CPow i j ∧ Q (.int (i ^ j.toNat)) H
  | _, _ => False
theorem opU_pow : OpR X (binaryOp .Pow) rPowU := imp_o op_pow fun x y H Q q => by
  unfold rPowU at q
  split at q
  · exact ⟨_, _, rfl, rfl, q.1, q.2⟩
  · exact q.elim
def rNegU : V → Hp → VK → Prop := fun x H Q => match x with
  | .int i => Q (.int (-i)) H
  | _ => False
theorem unU_neg : UnR X (unaryOp .USub) rNegU := fun pins s σ H x v Q I rx q => un_neg pins s σ H x v Q I rx (by
  unfold rNegU at q
  split at q
  · exact ⟨_, rfl, q⟩
  · exact q.elim)
/-- order -/
def rOrd (f : Int → Int → Bool) (g : List Nat → List Nat → Bool) : R2 := fun x y H Q => match x, y with
  | .int i, .int j => Q (.bl (f i j)) H
  | .str a, .str b => Q (.bl (g a.cps.toList b.cps.toList)) H
  | _, _ => False
theorem opU_lt : OpR X (compareOp .Lt) (rOrd (fun i j => decide (i < j)) fun a b => decide (a < b)) := imp_o (op_lt.or op_lt_str) fun x y H Q q => by
  unfold rOrd at q
  split at q
  · exact .inl ⟨_, _, rfl, rfl, q⟩
  · exact .inr ⟨_, _, rfl, rfl, q⟩
  · exact q.elim
def rLeU : R2 := fun x y H Q => match x, y with
  | .int i, .int j => Q (.bl (decide (i ≤ j))) H
  | .str a, .str b => Q (.bl (!decide (b.cps.toList < a.cps.toList))) H
  | _, _ => False
theorem opU_le : OpR X (compareOp .LtE) rLeU := imp_o (op_le.or op_le_str) fun x y H Q q => by
  unfold rLeU at q
  split at q
  · exact .inl ⟨_, _, rfl, rfl, q⟩
  · exact .inr ⟨_, _, rfl, rfl, q⟩
  · exact q.elim
def rGtU : R2 := fun x y H Q => match x, y with
  | .int i, .int j => Q (.bl (decide (j < i))) H
  | _, _ => False
theorem opU_gt : OpR X (compareOp .Gt) rGtU := imp_o op_gt fun x y H Q q => by
  unfold rGtU at q
  split at q
  · exact ⟨_, _, rfl, rfl, q⟩
  · exact q.elim
def rGeU : R2 := fun x y H Q => match x, y with
  | .int i, .int j => Q (.bl (decide (j ≤ i))) H
  | _, _ => False
theorem opU_ge : OpR X (compareOp .GtE) rGeU := imp_o op_ge fun x y H Q q => by
  unfold rGeU at q
  split at q
  · exact ⟨_, _, rfl, rfl, q⟩
  · exact q.elim
/-- == -/
def rEqU (K : PySem.W.Frag) : R2 := fun x y H Q => match scal x y with | true => Q (.bl (decide (x = y))) H | false => rEqD K x y H Q
def rNeU (K : PySem.W.Frag) : R2 := fun x y H Q => match scal x y with | true => Q (.bl (!decide (x = y))) H | false => rNeD K x y H Q
theorem roomU {k : Nat} {A : Around} (r : Room k A) : A.units + 64 < cLine := by have := r.un; omega
theorem opU_eq {K : PySem.W.Frag} {k : Nat} (r : Room k X.A) (hK : X.K = K := by rfl) : OpR X (compareOp .Eq) (rEqU K) := hK ▸ imp_o (op_eq.or (op_eqD (roomU r))) fun x y H Q q => by
  unfold rEqU at q
  split at q
  · rename_i e
    exact .inl ⟨e, q⟩
  · exact .inr q
theorem opU_ne {K : PySem.W.Frag} {k : Nat} (r : Room k X.A) (hK : X.K = K := by rfl) : OpR X (compareOp .NotEq) (rNeU K) := hK ▸ imp_o (op_ne.or (op_neD (roomU r))) fun x y H Q q => by
  unfold rNeU at q
  split at q
  · rename_i e
    exact .inl ⟨e, q⟩
  · exact .inr q
def rIsU (n : Bool) : R2 := fun x y H Q => match y with
  | .non => Q (.bl (n != decide (x = .non))) H
  | .bl b => (match x with | .bl a => Q (.bl (n != decide (a = b))) H | _ => False)
  | _ => False
theorem opU_is : OpR X (compareOp .Is) (rIsU false) := imp_o (op_isN.or op_isBl) fun x y H Q q => by
  unfold rIsU at q
  split at q
  · exact .inl ⟨rfl, by simpa using q⟩
  · split at q
    · exact .inr ⟨_, _, rfl, rfl, by simpa using q⟩
    · exact q.elim
  · exact q.elim
theorem opU_isnot : OpR X (compareOp .IsNot) (rIsU true) := imp_o (op_notN.or op_notBl) fun x y H Q q => by
  unfold rIsU at q
  split at q
  · exact .inl ⟨rfl, by simpa using q⟩
  · split at q
    · exact .inr ⟨_, _, rfl, rfl, by simpa using q⟩
    · exact q.elim
  · exact q.elim
/-- in -/
def rInU (K : PySem.W.Frag) (n : Bool) : R2 := fun x y H Q => match y with
  | .str z => (match x with
    | .str s => ∃ c, s = ⟨#[c]⟩ ∧ (match n with | true => Q (.bl (!decide (c ∈ z.cps.toList))) H | false => Q (.bl (decide (c ∈ z.cps.toList))) H)
    | _ => False)
  | .ref p => ∃ xs, (SqL K H p xs ∨ SqT K H p xs) ∧ flatV x = true ∧ xs.all flatV = true ∧ (match n with | true => Q (.bl (!inV x xs)) H | false => Q (.bl (inV x xs)) H)
  | _ => False
theorem opU_in {K : PySem.W.Frag} (hK : X.K = K := by rfl) : OpR X (compareOp .In) (rInU K false) := hK ▸ imp_o (op_in_sign.or op_in_seq) fun x y H Q q => by
  unfold rInU at q
  split at q
  · split at q
    · obtain ⟨c, rfl, q⟩ := q
      exact .inl ⟨c, _, rfl, rfl, q⟩
    · exact q.elim
  · obtain ⟨xs, h1, h2, h3, q⟩ := q
    exact .inr ⟨_, xs, rfl, h1, h2, h3, q⟩
  · exact q.elim
theorem opU_notin {K : PySem.W.Frag} (hK : X.K = K := by rfl) : OpR X (compareOp .NotIn) (rInU K true) := hK ▸ imp_o (op_notIn_sign.or op_notIn_seq) fun x y H Q q => by
  unfold rInU at q
  split at q
  · split at q
    · obtain ⟨c, rfl, q⟩ := q
      exact .inl ⟨c, _, rfl, rfl, q⟩
    · exact q.elim
  · obtain ⟨xs, h1, h2, h3, q⟩ := q
    exact .inr ⟨_, xs, rfl, h1, h2, h3, q⟩
  · exact q.elim
/-- x[i] -/
def rIxU (K : PySem.W.Frag) : R2 := fun x y H Q => match x, y with
  | .str z, .int i => z.length ≤ sizeLine ∧ ∃ c, atI z.cps.toList i = some c ∧ Q (.str ⟨#[c]⟩) H
  | .ref p, .int i => ∃ xs v, (SqL K H p xs ∨ SqT K H p xs) ∧ atI xs i = some v ∧ Q v H
  | _, _ => False
theorem ixU {K : PySem.W.Frag} (hK : X.K = K := by rfl) : IxR X (rIxU K) := by
  subst hK
  intro value slice pins s σ H x y v u Q I rx ry q hs
  refine ix_seq value slice pins s σ H x y v u Q I rx ry ?_ hs
  unfold rIxU at q
  split at q
  · obtain ⟨h1, c, h2, q⟩ := q
    exact .inr (.inr ⟨_, _, c, rfl, rfl, h1, h2, q⟩)
  · obtain ⟨xs, w, h1 | h1, h2, q⟩ := q
    · exact .inl ⟨_, xs, _, w, rfl, rfl, h1, h2, q⟩
    · exact .inr (.inl ⟨_, xs, _, w, rfl, rfl, h1, h2, q⟩)
  · exact q.elim
/-- x[i:j] -/
def rSlU (K : PySem.W.Frag) : V → Option Int → Option Int → Hp → VK → Prop := fun x lo hi H Q => match x with
  | .str z => z.length ≤ sizeLine ∧ Q (.str (cutS z lo hi)) H
  | .ref p => rSlL K (.ref p) lo hi H Q ∨ rSlT K (.ref p) lo hi H Q
  | _ => False
theorem slU {K : PySem.W.Frag} (hK : X.K = K := by rfl) : SlR X (rSlU K) := by
  subst hK
  intro pins s σ H x v vl vu lo hi sl Q I rx hs pl pu q
  refine (sl_str.or (sl_list.or sl_tup)) pins s σ H x v vl vu lo hi sl Q I rx hs pl pu ?_
  unfold rSlU at q
  split at q
  · exact .inl ⟨_, rfl, q.1, q.2⟩
  · exact .inr q
  · exact q.elim
def cPart (t : TE) : TO := fun σ H Q => t σ H fun x H1 => match x with | .int i => Q (some i) H1 | _ => False
theorem imp_po {e : Option Expr} {t t' : TO} (h : PO X e t) (i : ∀ σ H Q, t' σ H Q → t σ H Q) : PO X e t' := ⟨fun pins s σ H Q I q => h.run pins s σ H Q I (i σ H Q q)⟩
theorem po_someU {e : Expr} {t : TE} (h : PE X e t) : PO X (some e) (cPart t) := imp_po (po_some (mono_e h)) fun σ H Q q => ⟨_, fun x H1 z => by
  revert z
  cases x <;> intro z <;> first | exact ⟨_, rfl, z⟩ | exact z.elim, q⟩
/-! ### built-ins -/
def rLenU (K : PySem.W.Frag) : List V → Hp → VK → Prop := fun xs H Q => match xs with
  | [.str z] => z.length ≤ sizeLine ∧ Q (.int z.length) H
  | [.ref p] => (∃ ys, (SqL K H p ys ∨ SqT K H p ys) ∧ Q (.int ys.length) H) ∨ ∃ kvs, H p = some (.dK kvs) ∧ Q (.int kvs.length) H
  | _ => False
theorem callU_len {K : PySem.W.Frag} (hK : X.K = K := by rfl) : CallR X (.builtin "len") (rLenU K) := hK ▸ imp_c (call_len_str.or (call_len_seq.or call_lenD)) fun xs H Q q => by
  unfold rLenU at q
  split at q
  · exact .inl ⟨_, rfl, q.1, q.2⟩
  · rcases q with ⟨ys, h, q⟩ | ⟨kvs, h, q⟩
    · exact .inr (.inl ⟨_, ys, rfl, h, q⟩)
    · exact .inr (.inr ⟨_, kvs, rfl, h, q⟩)
  · exact q.elim
/-- isinstance of a value whose type is known -/
def IsiV (K : PySem.W.Frag) (H : Hp) (x : V) (n : String) (b : Bool) : Prop := ∃ t, TyX K H x t ∧ PySem.W.kitOne K t (.type n) = some b
def rIsiU (K : PySem.W.Frag) : List V → Hp → VK → Prop := fun xs H Q => match xs with
  | [x, .ty n] => ∃ b, IsiV K H x n b ∧ Q (.bl b) H
  | [x, .ref c] => rIsi K [x, .ref c] H Q ∨ rIsiT K [x, .ref c] H Q
  | _ => False
theorem callU_isi {K : PySem.W.Frag} (hK : X.K = K := by rfl) : CallR X (.builtin "isinstance") (rIsiU K) := hK ▸ imp_c (call_isi.or call_isiT) fun xs H Q q => by
  unfold rIsiU at q
  split at q
  · obtain ⟨b, ⟨t, h1, h2⟩, q⟩ := q
    exact .inl ⟨_, _, t, _, b, rfl, .ty _, h1, h2, q⟩
  · exact q
  · exact q.elim
def rIntU : List V → Hp → VK → Prop := fun xs H Q => match xs with
  | [.int i] => Q (.int i) H
  | [.bl k] => Q (.int (if k then 1 else 0)) H
  | [.str a] => ∃ n, PySem.intText? a = some n ∧ a.length ≤ 640 ∧ Q (.int n) H
  | _ => False
theorem callU_int : CallR X (.type "int") rIntU := imp_c (call_int1.or call_int_str) fun xs H Q q => by
  unfold rIntU at q
  split at q
  · exact .inl (.inl ⟨_, rfl, q⟩)
  · exact .inl (.inr ⟨_, rfl, q⟩)
  · obtain ⟨n, h1, h2, q⟩ := q
    exact .inr ⟨_, n, rfl, h1, h2, q⟩
  · exact q.elim
def rStrU : List V → Hp → VK → Prop := fun xs H Q => match xs with
  | [.int i] => i.natAbs.log2 < 1920 ∧ Q (.str (toString i)) H
  | _ => False
theorem callU_str : CallR X (.type "str") rStrU := imp_c call_str_int fun xs H Q q => by
  unfold rStrU at q
  split at q
  · exact ⟨_, rfl, q.1, q.2⟩
  · exact q.elim
def rListU (K : PySem.W.Frag) : List V → Hp → VK → Prop := fun xs H Q => match xs with
  | [.ref p] => (∃ ys, (SqL K H p ys ∨ SqT K H p ys) ∧ ∀ l, H l = none → Q (.ref l) (upd H l (.lst ys))) ∨ ∃ kvs : List (Key × V), H p = some (.dK kvs) ∧ ∀ q, H q = none → Q (.ref q) (upd H q (.lst (kvs.map fun kv => kV kv.1)))
  | _ => False
theorem callU_list {K : PySem.W.Frag} (hc : X.calm = true) (hK : X.K = K := by rfl) : CallR X (.type "list") (rListU K) := hK ▸ imp_c (call_list_of.or (call_list_dK hc)) fun xs H Q q => by
  unfold rListU at q
  split at q
  · rcases q with ⟨ys, h, q⟩ | ⟨kvs, h, q⟩
    · exact .inl ⟨_, ys, rfl, h, q⟩
    · exact .inr ⟨_, kvs, rfl, h, q⟩
  · exact q.elim
def rTupU (K : PySem.W.Frag) : List V → Hp → VK → Prop := fun xs H Q => match xs with
  | [.ref p] => ∃ ys, (SqL K H p ys ∧ ∀ l, H l = none → Q (.ref l) (upd H l (.tup ys))) ∨ (SqT K H p ys ∧ Q (.ref p) H)
  | _ => False
theorem callU_tuple {K : PySem.W.Frag} (hK : X.K = K := by rfl) : CallR X (.type "tuple") (rTupU K) := hK ▸ imp_c call_tuple_of fun xs H Q q => by
  unfold rTupU at q
  split at q
  · obtain ⟨ys, q⟩ := q
    exact ⟨_, ys, rfl, q⟩
  · exact q.elim
def rMin2U : List V → Hp → VK → Prop := fun xs H Q => match xs with
  | [.int i, .int j] => Q (.int (if j < i then j else i)) H
  | _ => False
def rMax2U : List V → Hp → VK → Prop := fun xs H Q => match xs with
  | [.int i, .int j] => Q (.int (if j > i then j else i)) H
  | _ => False
theorem callU_min2 (hc : X.calm = true) : CallR X (.builtin "min") rMin2U := imp_c (call_min2 hc) fun xs H Q q => by
  unfold rMin2U at q
  split at q
  · exact ⟨_, _, rfl, q⟩
  · exact q.elim
theorem callU_max2 (hc : X.calm = true) : CallR X (.builtin "max") rMax2U := imp_c (call_max2 hc) fun xs H Q q => by
  unfold rMax2U at q
  split at q
  · exact ⟨_, _, rfl, q⟩
  · exact q.elim
def rAllU (K : PySem.W.Frag) (f : List Bool → Bool) : List V → Hp → VK → Prop := fun xs H Q => match xs with
  | [.ref a] => ∃ bs : List Bool, SqL K H a (bs.map V.bl) ∧ Q (.bl (f bs)) H
  | _ => False
theorem callU_all {K : PySem.W.Frag} (hc : X.calm = true) (hK : X.K = K := by rfl) : CallR X (.builtin "all") (rAllU K fun bs => bs.all id) := hK ▸ imp_c (cr_all hc) fun xs H Q q => by
  unfold rAllU at q
  split at q
  · obtain ⟨bs, h, q⟩ := q
    exact ⟨_, bs, rfl, h, q⟩
  · exact q.elim
theorem callU_any {K : PySem.W.Frag} (hc : X.calm = true) (hK : X.K = K := by rfl) : CallR X (.builtin "any") (rAllU K fun bs => bs.any id) := hK ▸ imp_c (cr_any hc) fun xs H Q q => by
  unfold rAllU at q
  split at q
  · obtain ⟨bs, h, q⟩ := q
    exact ⟨_, bs, rfl, h, q⟩
  · exact q.elim
/-- xs[i] = v -/
def rSetU : V → V → V → Hp → (Hp → Prop) → Prop := fun o i v H Q => match o, i with
  | .ref p, .int k => ∃ xs j, H p = some (.lst xs) ∧ ixN xs.length k = some j ∧ Q (upd H p (.lst (xs.set j v)))
  | _, _ => False
theorem setU : PSet X rSetU := by
  intro pins s σ H o i v ov iv u Q I ro ri rv h
  refine set_list pins s σ H o i v ov iv u Q I ro ri rv ?_
  unfold rSetU at h
  split at h
  · obtain ⟨xs, j, h1, h2, q⟩ := h
    exact ⟨_, xs, _, j, rfl, rfl, h1, h2, q⟩
  · exact h.elim
end
/-! ### the rest with the written part told -/
section
variable {X : Cx} {K : PySem.W.Frag}
theorem pe_ty {x : Str} {pos : Pos} (n : String) (hm : X.mg x = none) (hv : bootBuiltins x = some (.type n) := by decide +kernel) (hg : Gl X x := by rfl) (hn : x ≠ "__name__" := by decide) (hd : (x == ("__debug__" : Str)) = false := by decide) : PE X (.Name x pos) (tC (.ty n)) :=
  pe_bltn hg hm hv rfl hn hd
theorem pi_listK {tg l : Expr} {tl : TE} (hl : PE X l tl) (hK : X.K = K := by rfl) : PI X tg l (iList K tl) := hK ▸ pi_list hl
theorem pi_tupK {tg l : Expr} {tl : TE} (hl : PE X l tl) (hK : X.K = K := by rfl) : PI X tg l (iTup K tl) := hK ▸ pi_tup hl
theorem pg_tupK {es : List Expr} {k : Nat} {t : TGs} {n : Nat} {pos : Pos} (hc : X.calm = true) (h : PGs X es t)
    (hn : (assignEach es X.env).length = n := by rfl) (hst : (assignEach es X.env).findIdx? (·.1) = none := by rfl) (hK : X.K = K := by rfl) : PG X (.Tuple es k pos) (gTup K n t) := hK ▸ pg_tup hc h hn hst
theorem pe_fldK {e : Expr} {f : Str} {ta : TE} {pos : Pos} (he : PE X e ta) (hb : attributeBase e f X.env (eval e X.env) = eval e X.env) (hK : X.K = K := by rfl) : PE X (.Attribute e f pos) (tFld K ta f) := hK ▸ pe_fld he hb
end
/-! ### defs -/
structure Ok (P : Program) (w : World) (K : PySem.W.Frag) (mg : Str → Option Value) (base : Heap) (k : Nat) (x : Str) (ps : List Str) (sp : Sp) : Prop where
  ex : ∃ f fd, mg x = some (.ref f) ∧ PySem.W.keepIn K (.ref f) = true ∧ Binds K fd ps [] ∧ FnOk P w K mg base (L2.CX P w) k f fd ps sp
structure FnAt (K : PySem.W.Frag) (mg : Str → Option Value) (x qual : Str) (st : Stmt) (ps : List Str) : Prop where
  ex : ∃ f fd, mg x = some (.ref f) ∧ Fun K x qual st f fd ∧ Binds K fd ps []
theorem okF {P : Program} {w : World} {K : PySem.W.Frag} {mg : Str → Option Value} {base : Heap} {x qual : Str} {st : Stmt} {N ps : List Str} {k : Nat} {sp : Sp} (F : FnAt K mg x qual st ps) (S : FnScope N ps (defScope st)) (len : ∀ vs H Q E, sp vs H Q E → vs.length = ps.length)
    (hbody : ∀ (f : Addr) (cdv : Value) (A : Around) (outer : List Env) (s : Shared) (H : Hp) (vs : List V) (Q : VK) (E : XK), Room k (A.deeper (envOfC qual (defScope st) s.heap.objs.size f cdv)) → sp vs H Q E →
      ∃ t, PSs (cxOf (L2.CX P w) P w K mg base N qual (defScope st) f cdv A outer s H (bE H E)) (defBody st) t ∧ t { nx := fun _ H' => bQ H Q .non H', rt := bQ H Q } (start N vs) H) : Ok P w K mg base (k + 1) x ps sp := by
  obtain ⟨f, fd, h1, h2, h3⟩ := F.ex
  exact ⟨f, fd, h1, h2.kp, h3, okX h2 S len (hbody f)⟩
section
variable {X : Cx} {k j : Nat} {x : Str} {ps : List Str} {sp : Sp} {E : XK} {p pos : Pos} {e : Expr} {es : List Expr} {t : TA}
def cCall (sp : Sp) (E : XK) (t : TA) : TE := fun σ H Q => t σ H fun vs H1 => sp vs H1 Q E
theorem pe_f (O : Ok X.prog X.w X.K X.mg X.base k x ps sp) (hr : Room k X.A) (hx : Passes (L2.CX X.prog X.w) X E) (ha : PA X (e :: es) t) (hg : Gl X x := by rfl)
    (hdb : (x == ("__debug__" : Str)) = false := by decide) (he : starEach (e :: es) X.env = (false, eval e X.env) :: starEach es X.env := by rfl) (hpl : (backTo pos (starEach es X.env)).any (·.1) = false := by rfl) :
    PE X (.Call (.Name x p) (e :: es) [] pos) (cCall sp E t) := by
  obtain ⟨f, fd, h1, h2, h3, F⟩ := O.ex
  have ha' : PA X (e :: es) (fun σ H Q => ∃ Q0 : List V → Hp → Prop, (∀ v H', Q0 v H' → Q v H') ∧ t σ H Q0) := ⟨fun pos pins s σ H Q I q => by
    obtain ⟨Q0, w, z⟩ := q
    exact thn (ha.run pos pins s σ H Q0 I z) fun u s1 ⟨v, H1, I1, r, q1⟩ => ⟨v, H1, I1, r, w v H1 q1⟩⟩
  refine imp_e (pe_call F hr hg h1 h2 h3 .nil hx ha' hdb he hpl) fun σ H Q q => ⟨_, fun vs H1 z => ?_, q⟩
  show sp (vs ++ []) H1 Q E
  rw [List.append_nil]
  exact z
theorem pe_f0 (O : Ok X.prog X.w X.K X.mg X.base k x ps sp) (hr : Room k X.A) (hx : Passes (L2.CX X.prog X.w) X E) (hg : Gl X x := by rfl)
    (hdb : (x == ("__debug__" : Str)) = false := by decide) : PE X (.Call (.Name x p) [] [] pos) (cCall sp E tNil) := by
  obtain ⟨f, fd, h1, h2, h3, F⟩ := O.ex
  exact imp_e (pe_call0 F hr hg h1 h2 h3 .nil hx hdb) fun σ H Q q => q
end
end R
namespace R
open PySem PySem.Spec PyProof.Rows L2
/-! ### arguments by their number -/
def arg1 (R : V → Prop) : List V → Prop | [a] => R a | _ => False
def arg2 (R : V → V → Prop) : List V → Prop | [a, b] => R a b | _ => False
def arg3 (R : V → V → V → Prop) : List V → Prop | [a, b, c] => R a b c | _ => False
def arg4 (R : V → V → V → V → Prop) : List V → Prop | [a, b, c, d] => R a b c d | _ => False
def arg5 (R : V → V → V → V → V → Prop) : List V → Prop | [a, b, c, d, e] => R a b c d e | _ => False
theorem arg1.ex {R : V → Prop} : ∀ {vs : List V}, arg1 R vs → ∃ a, vs = [a] ∧ R a
  | [a], h => ⟨a, rfl, h⟩
  | [], h => h.elim
  | _ :: _ :: _, h => h.elim
theorem arg2.ex {R : V → V → Prop} : ∀ {vs : List V}, arg2 R vs → ∃ a b, vs = [a, b] ∧ R a b
  | [a, b], h => ⟨a, b, rfl, h⟩
  | [], h => h.elim
  | [_], h => h.elim
  | _ :: _ :: _ :: _, h => h.elim
theorem arg3.ex {R : V → V → V → Prop} : ∀ {vs : List V}, arg3 R vs → ∃ a b c, vs = [a, b, c] ∧ R a b c
  | [a, b, c], h => ⟨a, b, c, rfl, h⟩
  | [], h => h.elim
  | [_], h => h.elim
  | [_, _], h => h.elim
  | _ :: _ :: _ :: _ :: _, h => h.elim
theorem arg4.ex {R : V → V → V → V → Prop} : ∀ {vs : List V}, arg4 R vs → ∃ a b c d, vs = [a, b, c, d] ∧ R a b c d
  | [a, b, c, d], h => ⟨a, b, c, d, rfl, h⟩
  | [], h => h.elim
  | [_], h => h.elim
  | [_, _], h => h.elim
  | [_, _, _], h => h.elim
  | _ :: _ :: _ :: _ :: _ :: _, h => h.elim
theorem arg5.ex {R : V → V → V → V → V → Prop} : ∀ {vs : List V}, arg5 R vs → ∃ a b c d e, vs = [a, b, c, d, e] ∧ R a b c d e
  | [a, b, c, d, e], h => ⟨a, b, c, d, e, rfl, h⟩
  | [], h => h.elim
  | [_], h => h.elim
  | [_, _], h => h.elim
  | [_, _, _], h => h.elim
  | [_, _, _, _], h => h.elim
  | _ :: _ :: _ :: _ :: _ :: _ :: _, h => h.elim
def arg6 (R : V → V → V → V → V → V →  Prop) : List V → Prop | [a, b, c, d, e, f] => R a b c d e f | _ => False
theorem arg6.ex {R : V → V → V → V → V → V →  Prop} : ∀ {vs : List V}, arg6 R vs → ∃ a b c d e f, vs = [a, b, c, d, e, f] ∧ R a b c d e f
  | [a, b, c, d, e, f], h => ⟨a, b, c, d, e, f, rfl, h⟩
  | [], h => h.elim
  | [_], h => h.elim
  | [_, _], h => h.elim
  | [_, _, _], h => h.elim
  | [_, _, _, _], h => h.elim
  | [_, _, _, _, _], h => h.elim
  | _ :: _ :: _ :: _ :: _ :: _ :: _ :: _, h => h.elim
def arg7 (R : V → V → V → V → V → V → V →  Prop) : List V → Prop | [a, b, c, d, e, f, g] => R a b c d e f g | _ => False
theorem arg7.ex {R : V → V → V → V → V → V → V →  Prop} : ∀ {vs : List V}, arg7 R vs → ∃ a b c d e f g, vs = [a, b, c, d, e, f, g] ∧ R a b c d e f g
  | [a, b, c, d, e, f, g], h => ⟨a, b, c, d, e, f, g, rfl, h⟩
  | [], h => h.elim
  | [_], h => h.elim
  | [_, _], h => h.elim
  | [_, _, _], h => h.elim
  | [_, _, _, _], h => h.elim
  | [_, _, _, _, _], h => h.elim
  | [_, _, _, _, _, _], h => h.elim
  | _ :: _ :: _ :: _ :: _ :: _ :: _ :: _ :: _, h => h.elim
def arg8 (R : V → V → V → V → V → V → V → V →  Prop) : List V → Prop | [a, b, c, d, e, f, g, h] => R a b c d e f g h | _ => False
theorem arg8.ex {R : V → V → V → V → V → V → V → V →  Prop} : ∀ {vs : List V}, arg8 R vs → ∃ a b c d e f g h, vs = [a, b, c, d, e, f, g, h] ∧ R a b c d e f g h
  | [a, b, c, d, e, f, g, h], hyp => ⟨a, b, c, d, e, f, g, h, rfl, hyp⟩
  | [], h => h.elim
  | [_], h => h.elim
  | [_, _], h => h.elim
  | [_, _, _], h => h.elim
  | [_, _, _, _], h => h.elim
  | [_, _, _, _, _], h => h.elim
  | [_, _, _, _, _, _], h => h.elim
  | [_, _, _, _, _, _, _], h => h.elim
  | _ :: _ :: _ :: _ :: _ :: _ :: _ :: _ :: _ :: _, h => h.elim
def arg9 (R : V → V → V → V → V → V → V → V → V →  Prop) : List V → Prop | [a, b, c, d, e, f, g, h, i] => R a b c d e f g h i | _ => False
theorem arg9.ex {R : V → V → V → V → V → V → V → V → V →  Prop} : ∀ {vs : List V}, arg9 R vs → ∃ a b c d e f g h i, vs = [a, b, c, d, e, f, g, h, i] ∧ R a b c d e f g h i
  | [a, b, c, d, e, f, g, h, i], hyp => ⟨a, b, c, d, e, f, g, h, i, rfl, hyp⟩
  | [], h => h.elim
  | [_], h => h.elim
  | [_, _], h => h.elim
  | [_, _, _], h => h.elim
  | [_, _, _, _], h => h.elim
  | [_, _, _, _, _], h => h.elim
  | [_, _, _, _, _, _], h => h.elim
  | [_, _, _, _, _, _, _], h => h.elim
  | [_, _, _, _, _, _, _, _], h => h.elim
  | _ :: _ :: _ :: _ :: _ :: _ :: _ :: _ :: _ :: _ :: _, h => h.elim
/-! ### heaps -/
theorem same_new {H : Hp} {p : Addr} {o : HO} (h : H p = none) : Same H (upd H p o) := fun b u e => by
  rw [upd_ne (ne_of_none e h)]
  exact e
theorem Wf.set {H : Hp} {p : Addr} {o : HO} (w : Wf H) (f : Flat o) (h : ∀ x, H p ≠ some (.own x)) : Wf (upd H p o) := fun a u e => by
  by_cases ha : a = p
  · subst ha
    rw [upd_same] at e
    cases e
    exact .inl f
  · rw [upd_ne ha] at e
    rcases w a u e with q | ⟨C, dx, fs, rfl, hd⟩
    · exact .inl q
    · refine .inr ⟨C, dx, fs, rfl, ?_⟩
      rw [upd_ne (fun z => h a (by rw [← z]; exact hd))]
      exact hd
theorem Wf.new {H : Hp} {p : Addr} {o : HO} (w : Wf H) (f : Flat o) (h : H p = none) : Wf (upd H p o) := w.set f fun x z => by rw [h] at z; cases z
theorem Wf.at {H : Hp} {p : Addr} {o u : HO} (w : Wf H) (f : Flat o) (h : H p = some u) (hu : ∀ x, u ≠ .own x) : Wf (upd H p o) := w.set f fun x z => by
  rw [h] at z
  exact hu x (Option.some.inj z)
theorem bQ.same {H H' : Hp} {Q : VK} {v : V} (w : Wf H) (s : Same H H') (q : Q v H) : bQ H Q v H' := ⟨H, ⟨s, fun a o e => by rw [e, s a o e], w⟩, q⟩
/-! ### a list of two numbers from which digits are drawn -/
def stL (p q : Int) : HO := .lst [.int p, .int q]
/-- it stands at a, its first number not below nought -/
def St2 (H : Hp) (a : Addr) : Prop := ∃ p q, H a = some (stL p q) ∧ 0 ≤ p
/-- all but it is as it was -/
structure Dr (a : Addr) (H H' : Hp) : Prop where
  kp : ∀ b o, b ≠ a → H b = some o → H' b = some o
  st : St2 H' a
  wf : Wf H'
theorem Dr.refl {a : Addr} {H : Hp} (s : St2 H a) (w : Wf H) : Dr a H H := ⟨fun _ _ _ h => h, s, w⟩
theorem Dr.trans {a : Addr} {H H1 H2 : Hp} (x : Dr a H H1) (y : Dr a H1 H2) : Dr a H H2 := ⟨fun b o n e => y.kp b o n (x.kp b o n e), y.st, y.wf⟩
theorem Dr.drawn {a : Addr} {H H1 : Hp} {p q : Int} (x : Dr a H H1) (h : 0 ≤ p) : Dr a H (upd H1 a (stL p q)) := by
  obtain ⟨p0, q0, e, _⟩ := x.st
  refine ⟨fun b o n e => ?_, ⟨p, q, upd_same, h⟩, x.wf.at trivial e fun x z => by cases z⟩
  rw [upd_ne n]
  exact x.kp b o n e
theorem Dr.new {a p : Addr} {o : HO} {H H1 : Hp} (x : Dr a H H1) (h : H1 p = none) (f : Flat o) : Dr a H (upd H1 p o) := by
  obtain ⟨p0, q0, e, h0⟩ := x.st
  refine ⟨fun b u n e => ?_, ⟨p0, q0, ?_, h0⟩, x.wf.new f h⟩
  · have q := x.kp b u n e
    rw [upd_ne (ne_of_none q h)]
    exact q
  · rw [upd_ne (ne_of_none e h)]
    exact e
theorem Dr.done {a : Addr} {H H' : Hp} {Q : VK} {v : V} (x : Dr a H H') (w : Wf H) (s : St2 H a) (q : ∀ p q, 0 ≤ p → Q v (upd H a (stL p q))) : bQ H Q v H' := by
  obtain ⟨p, q0, e, h⟩ := x.st
  obtain ⟨p1, q1, e1, _⟩ := s
  refine ⟨upd H a (stL p q0), ⟨fun b o z => ?_, fun b o z => ?_, w.at trivial e1 fun x z => by cases z⟩, q p q0 h⟩
  · by_cases hb : b = a
    · subst hb
      rw [upd_same] at z
      rw [e, z]
    · rw [upd_ne hb] at z
      exact x.kp b o hb z
  · by_cases hb : b = a
    · subst hb
      rw [upd_same, e]
    · rw [upd_ne hb, z, x.kp b o hb z]
theorem Dr.at {a b : Addr} {o : HO} {H H' : Hp} (x : Dr a H H') (h : H b = some o) (n : ∀ p q, o ≠ stL p q) (s : St2 H a) : H' b = some o := by
  obtain ⟨p, q, e, _⟩ := s
  exact x.kp b o (fun z => by subst z; rw [h] at e; exact n p q (Option.some.inj e)) h
/-- a place in a list, a text -/
theorem at_lt {α : Type} {xs : List α} {i : Int} (h0 : 0 ≤ i) (h1 : i < xs.length) : ∃ v, atI xs i = some v ∧ v ∈ xs := by
  obtain ⟨j, rfl⟩ : ∃ j : Nat, i = j := ⟨i.toNat, by omega⟩
  have hj : j < xs.length := by omega
  exact ⟨xs[j], atI_nat (List.getElem?_eq_getElem hj), List.getElem_mem hj⟩
theorem line_of {n : Nat} (h : n ≤ 16777216) : n ≤ sizeLine := by rw [sizeLine_eq]; exact h
theorem line_lt {n : Nat} (h : n < 16777216) : n < sizeLine := by rw [sizeLine_eq]; exact h
/-! ### types of values -/
def Known (K : PySem.W.Frag) (H : Hp) (v : V) : Prop := match v with
  | .non => True
  | .bl _ => True
  | .int _ => True
  | .str _ => True
  | .ref p => (∃ xs, H p = some (.lst xs)) ∨ (∃ xs, H p = some (.tup xs)) ∨ ∃ kvs, H p = some (.dK kvs)
  | _ => False
def isStr : V → Bool | .str _ => true | _ => false
def isInt : V → Bool | .int _ => true | .bl _ => true | _ => false
def isBl : V → Bool | .bl _ => true | _ => false
section
variable {K : PySem.W.Frag} {H : Hp}
theorem isi_ty {x : V} {n m : String} {b : Bool} (h : TyX K H x (.type n)) (e : kitB n m = some b) : IsiV K H x m b := ⟨_, h, kit_ty e⟩
theorem isi_str : ∀ {v : V}, Known K H v → IsiV K H v "str" (isStr v)
  | .non, _ => isi_ty (b := false) (.base .non) (by decide +kernel)
  | .bl _, _ => isi_ty (b := false) (.base (.bl _)) (by decide +kernel)
  | .int _, _ => isi_ty (b := false) (.base (.int _)) (by decide +kernel)
  | .str _, _ => isi_ty (b := true) (.base (.str _)) (by decide +kernel)
  | .ref _, .inl ⟨_, h⟩ => isi_ty (b := false) (.base (.lst h)) (by decide +kernel)
  | .ref _, .inr (.inl ⟨_, h⟩) => isi_ty (b := false) (.base (.tup h)) (by decide +kernel)
  | .ref _, .inr (.inr ⟨_, h⟩) => isi_ty (b := false) (.base (.dK h)) (by decide +kernel)
theorem isi_int : ∀ {v : V}, Known K H v → IsiV K H v "int" (isInt v)
  | .non, _ => isi_ty (b := false) (.base .non) (by decide +kernel)
  | .bl _, _ => isi_ty (b := true) (.base (.bl _)) (by decide +kernel)
  | .int _, _ => isi_ty (b := true) (.base (.int _)) (by decide +kernel)
  | .str _, _ => isi_ty (b := false) (.base (.str _)) (by decide +kernel)
  | .ref _, .inl ⟨_, h⟩ => isi_ty (b := false) (.base (.lst h)) (by decide +kernel)
  | .ref _, .inr (.inl ⟨_, h⟩) => isi_ty (b := false) (.base (.tup h)) (by decide +kernel)
  | .ref _, .inr (.inr ⟨_, h⟩) => isi_ty (b := false) (.base (.dK h)) (by decide +kernel)
theorem isi_bool : ∀ {v : V}, Known K H v → IsiV K H v "bool" (isBl v)
  | .non, _ => isi_ty (b := false) (.base .non) (by decide +kernel)
  | .bl _, _ => isi_ty (b := true) (.base (.bl _)) (by decide +kernel)
  | .int _, _ => isi_ty (b := false) (.base (.int _)) (by decide +kernel)
  | .str _, _ => isi_ty (b := false) (.base (.str _)) (by decide +kernel)
  | .ref _, .inl ⟨_, h⟩ => isi_ty (b := false) (.base (.lst h)) (by decide +kernel)
  | .ref _, .inr (.inl ⟨_, h⟩) => isi_ty (b := false) (.base (.tup h)) (by decide +kernel)
  | .ref _, .inr (.inr ⟨_, h⟩) => isi_ty (b := false) (.base (.dK h)) (by decide +kernel)
end
end R
namespace R
open PySem PySem.Spec PyProof.Rows L2
theorem iteP {p : Prop} [Decidable p] {A B : Prop} (h : p) (a : A) : if decide p = true then A else B := by
  rw [if_pos (decide_eq_true h)]
  exact a
theorem iteN {p : Prop} [Decidable p] {A B : Prop} (h : ¬ p) (b : B) : if decide p = true then A else B := by
  rw [if_neg (by rw [decide_eq_false h]; exact Bool.false_ne_true)]
  exact b
theorem iteC {p : Prop} [Decidable p] {A B : Prop} (a : p → A) (b : ¬ p → B) : if decide p = true then A else B := by
  by_cases h : p
  · exact iteP h (a h)
  · exact iteN h (b h)
/-- a comprehension without tests whose element changes nothing -/
theorem lc_map {J : It} {n : Nat} {G : Hp → Prop} {Y : Nat → Hp → V → Hp → Prop} (w : Walk J n G Y) (It' : Nat → V → Prop) (hy : ∀ i H x H', Y i H x H' → H' = H ∧ It' i x) (f : Nat → V) {g : TG} {te : TE} {vs : List Nat} {σ : L2.St} {H1 : Hp} {D : Addr} {Qd : Hp → Prop}
    (hn : n < sizeLine) (hG : ∀ o, G (upd H1 D o))
    (hs : ∀ (i : Nat) (x : V) (acc : List V) (C : V → Hp → Prop), i < n → It' i x → C (f i) (upd H1 D (.lst acc)) → g x (wipe σ vs) (upd H1 D (.lst acc)) fun σ2 H2 => wipe σ2 vs = wipe σ vs ∧ te σ2 H2 C)
    (hd : Qd (upd H1 D (.lst ((List.range n).map f)))) :
    ∃ W : Nat → Nat → Hp → Prop, (∃ m, W 0 m (upd H1 D (.lst []))) ∧ ∀ i m H, W i m H →
      (J.stop i H ∧ Qd H) ∨ (J.go i H ∧ ∃ Nx : Hp → Prop, (∀ H', Nx H' → ∃ m', m' < m ∧ W (i + 1) m' H') ∧ ∀ x H', J.yld i H x H' → g x (wipe σ vs) H' fun σ2 H2 => wipe σ2 vs = wipe σ vs ∧ tYes σ2 H2 fun b H3 =>
        if b = true then te σ2 H3 fun y H4 => ∃ acc, H4 D = some (.lst acc) ∧ acc.length < sizeLine ∧ Nx (upd H4 D (.lst (acc ++ [y]))) else Nx H3) := by
  refine ⟨fun i m H => m = n - i ∧ i ≤ n ∧ H = upd H1 D (.lst ((List.range i).map f)), ⟨n, by simp, Nat.zero_le _, rfl⟩, ?_⟩
  rintro i m H ⟨rfl, hi, rfl⟩
  by_cases hlt : i < n
  · refine .inr ⟨w.goes i _ hlt (hG _), fun H' => H' = upd H1 D (.lst ((List.range (i + 1)).map f)), fun H' e => ⟨n - (i + 1), by omega, rfl, hlt, e⟩, fun x H' y => ?_⟩
    obtain ⟨rfl, hx⟩ := hy _ _ _ _ (w.yields i _ x H' hlt (hG _) y)
    refine hs i x _ (fun y H4 => ∃ acc, H4 D = some (.lst acc) ∧ acc.length < sizeLine ∧ upd H4 D (.lst (acc ++ [y])) = upd H1 D (.lst ((List.range (i + 1)).map f))) hlt hx ⟨_, upd_same, ?_, ?_⟩
    · rw [List.length_map, List.length_range]
      exact Nat.lt_trans hlt hn
    · rw [upd_upd, List.range_succ, List.map_append]
      rfl
  · have e : i = n := by omega
    subst e
    exact .inl ⟨w.stops _ (hG _), hd⟩
theorem range_getD {α β : Type} (l : List α) (d : α) (f : α → β) : (List.range l.length).map (fun i => f (l.getD i d)) = l.map f := by
  apply List.ext_getElem
  · simp
  · intro i h1 h2
    simp at h1 h2 ⊢
    simp [List.getElem?_eq_getElem h1]
end R
namespace R
theorem iteB {c : Bool} {A B : Prop} (a : c = true → A) (b : c = false → B) : if c = true then A else B := by
  cases c with
  | true => rw [if_pos rfl]; exact a rfl
  | false => rw [if_neg Bool.false_ne_true]; exact b rfl
theorem nd_t {p : Prop} [Decidable p] (h : (!decide p) = true) : ¬ p := by simpa using h
theorem nd_f {p : Prop} [Decidable p] (h : (!decide p) = false) : p := by simpa using h
end R
namespace R
open PySem PySem.Spec PyProof.Rows L2
/-- a comprehension with tests whose parts change nothing -/
theorem lc_filt {J : It} {n : Nat} {G : Hp → Prop} {Y : Nat → Hp → V → Hp → Prop} (w : Walk J n G Y) (It' : Nat → V → Prop) (hy : ∀ i H x H', Y i H x H' → H' = H ∧ It' i x) (f : Nat → V) (p : Nat → Bool) {g : TG} {tt : TT} {te : TE} {vs : List Nat} {σ : L2.St} {H1 : Hp} {D : Addr} {Qd : Hp → Prop}
    (hn : n < sizeLine) (hG : ∀ o, G (upd H1 D o))
    (hs : ∀ (i : Nat) (x : V) (acc : List V) (C : V → Hp → Prop) (Cn : Hp → Prop), i < n → It' i x → (p i = true → C (f i) (upd H1 D (.lst acc))) → (p i = false → Cn (upd H1 D (.lst acc))) →
      g x (wipe σ vs) (upd H1 D (.lst acc)) fun σ2 H2 => wipe σ2 vs = wipe σ vs ∧ tt σ2 H2 fun b H3 => if b = true then te σ2 H3 C else Cn H3)
    (hd : Qd (upd H1 D (.lst (((List.range n).filter p).map f)))) :
    ∃ W : Nat → Nat → Hp → Prop, (∃ m, W 0 m (upd H1 D (.lst []))) ∧ ∀ i m H, W i m H →
      (J.stop i H ∧ Qd H) ∨ (J.go i H ∧ ∃ Nx : Hp → Prop, (∀ H', Nx H' → ∃ m', m' < m ∧ W (i + 1) m' H') ∧ ∀ x H', J.yld i H x H' → g x (wipe σ vs) H' fun σ2 H2 => wipe σ2 vs = wipe σ vs ∧ tt σ2 H2 fun b H3 =>
        if b = true then te σ2 H3 fun y H4 => ∃ acc, H4 D = some (.lst acc) ∧ acc.length < sizeLine ∧ Nx (upd H4 D (.lst (acc ++ [y]))) else Nx H3) := by
  refine ⟨fun i m H => m = n - i ∧ i ≤ n ∧ H = upd H1 D (.lst (((List.range i).filter p).map f)), ⟨n, by simp, Nat.zero_le _, rfl⟩, ?_⟩
  rintro i m H ⟨rfl, hi, rfl⟩
  by_cases hlt : i < n
  · refine .inr ⟨w.goes i _ hlt (hG _), fun H' => H' = upd H1 D (.lst (((List.range (i + 1)).filter p).map f)), fun H' e => ⟨n - (i + 1), by omega, rfl, hlt, e⟩, fun x H' y => ?_⟩
    obtain ⟨rfl, hx⟩ := hy _ _ _ _ (w.yields i _ x H' hlt (hG _) y)
    refine hs i x _ (fun y H4 => ∃ acc, H4 D = some (.lst acc) ∧ acc.length < sizeLine ∧ upd H4 D (.lst (acc ++ [y])) = upd H1 D (.lst (((List.range (i + 1)).filter p).map f))) _ hlt hx (fun hp => ⟨_, upd_same, ?_, ?_⟩) (fun hp => ?_)
    · rw [List.length_map]
      refine Nat.lt_of_le_of_lt (List.length_filter_le _ _) ?_
      rw [List.length_range]
      exact Nat.lt_trans hlt hn
    · rw [upd_upd, List.range_succ, List.filter_append, List.map_append, List.filter_cons_of_pos hp]
      rfl
    · rw [List.range_succ, List.filter_append, List.filter_cons_of_neg (by rw [hp]; exact Bool.false_ne_true)]
      simp
  · have e : i = n := by omega
    subst e
    exact .inl ⟨w.stops _ (hG _), hd⟩
theorem filt_getD {α β : Type} (l : List α) (d : α) (q : α → Bool) (f : α → β) : ((List.range l.length).filter fun i => q (l.getD i d)).map (fun i => f (l.getD i d)) = (l.filter q).map f := by
  have h : (List.range l.length).map (fun i => l.getD i d) = l := by
    have := range_getD l d id
    simpa using this
  have h2 : ((List.range l.length).filter fun i => q (l.getD i d)).map (fun i => l.getD i d) = l.filter q := by
    conv => rhs; rw [← h]
    rw [List.filter_map]
    rfl
  rw [← h2, List.map_map]
  rfl
theorem joinL_nil : ∀ ps : List (List Nat), TL.joinL [] ps = ps.flatten
  | [] => rfl
  | [p] => by simp [TL.joinL]
  | p :: q :: r => by
    show p ++ ([] ++ TL.joinL [] (q :: r)) = _
    rw [joinL_nil (q :: r)]
    rfl
theorem join_ones (cs : List Nat) : Txt.join (⟨#[]⟩ : Str) (cs.map fun c => (⟨#[c]⟩ : Str)) = ⟨cs.toArray⟩ := by
  have e : ∀ cs : List Nat, (cs.map fun c => [c]).flatten = cs := fun cs => by
    induction cs with
    | nil => rfl
    | cons c r ih =>
      rw [List.map_cons, List.flatten_cons, ih]
      rfl
  have h := SX.join_S [] (cs.map fun c => [c])
  rw [joinL_nil, List.map_map, e] at h
  exact h
theorem dp_strs {K : PySem.W.Frag} {H : Hp} : ∀ zs : List Str, DpAll K H (zs.map V.str) (zs.map PyData.str)
  | [] => .nil
  | z :: zs => .cons (.str z) (dp_strs zs)
theorem dp_ints {K : PySem.W.Frag} {H : Hp} : ∀ zs : List Int, DpAll K H (zs.map V.int) (zs.map PyData.int)
  | [] => .nil
  | z :: zs => .cons (.int z) (dp_ints zs)
end R
namespace R
open PySem PySem.Spec PyProof.Rows L2
theorem Dr.put {a D : Addr} {o u : HO} {H H1 : Hp} (x : Dr a H H1) (hD : H D = none) (e : H1 D = some u) (nu : ∀ x, u ≠ .own x) (f : Flat o) (n : D ≠ a) : Dr a H (upd H1 D o) := by
  obtain ⟨p0, q0, e0, h0⟩ := x.st
  refine ⟨fun b z nb eb => ?_, ⟨p0, q0, ?_, h0⟩, x.wf.at f e nu⟩
  · rw [upd_ne (ne_of_none eb hD)]
    exact x.kp b z nb eb
  · rw [upd_ne n.symm]
    exact e0
end R
namespace R
open PySem PySem.Spec PyProof.Rows L2
abbrev sOk (z : Str) : Prop := PyData.strOk z = true
theorem sOk_iff {z : Str} : sOk z ↔ ∀ c ∈ z.cps.toList, c < 0x110000 := by
  unfold sOk PyData.strOk
  rw [← Array.all_toList, List.all_eq_true]
  simp
theorem sOk_app {x y : Str} (h : sOk x) (g : sOk y) : sOk (x ++ y) := by
  rw [sOk_iff] at h g ⊢
  intro c hc
  have e := TL.tl_append x y
  have hc' : c ∈ TL.tl (x ++ y) := hc
  rw [e, List.mem_append] at hc'
  rcases hc' with q | q
  · exact h c q
  · exact g c q
theorem sOk_cut {z : Str} {lo hi : Option Int} (h : sOk z) : sOk (cutS z lo hi) := by
  rw [sOk_iff] at h ⊢
  intro c hc
  refine h c ?_
  have hc' : c ∈ (z.cps.toList.drop (HT.sIx z.length 0 lo)).take (HT.sIx z.length z.length hi - HT.sIx z.length 0 lo) := hc
  exact List.mem_of_mem_drop (List.mem_of_mem_take hc')
theorem sOk_list {cs : List Nat} (h : ∀ c ∈ cs, c < 0x110000) : sOk ⟨cs.toArray⟩ := sOk_iff.mpr (by simpa using h)
theorem sOk_one {c : Nat} (h : c < 0x110000) : sOk ⟨#[c]⟩ := sOk_list (cs := [c]) (by simpa using h)
theorem shape_strs {zs : List Str} (h : ∀ z ∈ zs, sOk z) : SeqAt.shaped (.list (zs.map .str)) = true := by
  have h1 : PyData.canLayAll0 (zs.map .str) = true := by
    induction zs with
    | nil => rfl
    | cons z r ih =>
      show (PyData.canLay0 (.str z) && PyData.canLayAll0 (r.map .str)) = true
      rw [ih fun y hy => h y (List.mem_cons_of_mem _ hy), Bool.and_true]
      exact h z List.mem_cons_self
  have h2 : PyData.depthAll (zs.map .str) = 0 := by
    clear h h1
    induction zs with
    | nil => rfl
    | cons z r ih =>
      show max 0 (PyData.depthAll (r.map .str)) = 0
      rw [ih]
      rfl
  unfold SeqAt.shaped
  show (PyData.canLayAll0 (zs.map .str) && decide (PyData.depthAll (zs.map .str) + 1 ≤ 64)) = true
  rw [h1, h2]
  rfl
/-- what behind a statement is wanted, told first -/
def sCut (t : TS) : TS := fun D σ H => ∃ P : L2.St → Hp → Prop, t { D with nx := P } σ H ∧ ∀ σ' H', P σ' H' → D.nx σ' H'
theorem ps_cut {X : Cx} {b : Stmt} {t : TS} (h : PS X b t) : PS X b (sCut t) := ⟨fun pins s σ H D I q => by
  obtain ⟨P, q1, q2⟩ := q
  refine thn (h.run pins s σ H _ I q1) fun f s1 z => ?_
  cases f with
  | next =>
    obtain ⟨σ', H', I', q⟩ := z
    exact ⟨σ', H', I', q2 _ _ q⟩
  | brk => exact z
  | cont => exact z
  | ret u => exact z⟩
/-- the same of a value -/
def eCut (t : TE) : TE := fun σ H Q => ∃ P : VK, t σ H P ∧ ∀ v H', P v H' → Q v H'
theorem pe_cut {X : Cx} {e : Expr} {t : TE} (h : PE X e t) : PE X e (eCut t) := ⟨fun pins s σ H Q I q => by
  obtain ⟨P, q1, q2⟩ := q
  exact thn (h.run pins s σ H _ I q1) fun u s1 ⟨v, H', I', r, q⟩ => ⟨v, H', I', r, q2 _ _ q⟩⟩
theorem wf_only {H : Hp} (h : Only H) : Wf H := fun a o e => by
  rcases h a with q | ⟨ob, xs, q⟩
  · rw [q] at e
    cases e
  · rw [q] at e
    cases e
    exact .inl trivial
theorem lt_one {c d : Nat} : (([c] : List Nat) < [d]) ↔ c < d := by
  rw [List.cons_lt_cons_iff]
  constructor
  · rintro (h | ⟨_, h⟩)
    · exact h
    · exact absurd h (List.lt_irrefl _)
  · exact .inl
end R
namespace R
theorem st_ne {H : L2.Hp} {a l : PySem.Addr} (s : St2 H a) (n : H l = none) : l ≠ a := fun e => by
  obtain ⟨_, _, e1, _⟩ := s
  rw [← e, n] at e1
  cases e1
theorem bE.same {H H' : L2.Hp} {E : L2.XK} {c : PySem.Value} {d : Option PySem.Addr} (w : Wf H) (s : L2.Same H H') (q : E c d H) : bE H E c d H' := ⟨H, ⟨s, fun a o e => by rw [e, s a o e], w⟩, q⟩
theorem bE.mk {H H' : L2.Hp} {E : L2.XK} {c : PySem.Value} {d : Option PySem.Addr} (w : Wf H') (q : E c d H') : bE H E c d H' := ⟨H', Back.refl w, q⟩
end R
namespace R
open PySem PySem.Spec PyProof.Rows L2
/-! ### what is known of a value's type; data -/
/-- its type is one of the plain ones -/
def Kn (K : PySem.W.Frag) (H : Hp) (v : V) : Prop := match v with
  | .non => True
  | .bl _ => True
  | .int _ => True
  | .str _ => True
  | .ref p => TyX K H (.ref p) (.type "list") ∨ TyX K H (.ref p) (.type "tuple") ∨ TyX K H (.ref p) (.type "dict")
  | _ => False
section
variable {K : PySem.W.Frag} {H H' : Hp}
theorem ty_l {p : Addr} {xs : List V} (h : SqL K H p xs) : TyX K H (.ref p) (.type "list") := by
  rcases h with (h | ⟨o, h⟩) | ⟨o, _, _, h, c, _⟩
  · exact .base (.lst h)
  · exact .base (.frz h)
  · exact .kList h c
theorem ty_t {p : Addr} {xs : List V} (h : SqT K H p xs) : TyX K H (.ref p) (.type "tuple") := by
  rcases h with (h | ⟨o, h⟩) | ⟨o, _, _, h, c, _⟩
  · exact .base (.tup h)
  · exact .fTuple h
  · exact .kTuple h c
theorem Known.kn : ∀ {v : V}, Known K H v → Kn K H v
  | .non, h => h
  | .bl _, h => h
  | .int _, h => h
  | .str _, h => h
  | .ref _, .inl ⟨_, h⟩ => .inl (.base (.lst h))
  | .ref _, .inr (.inl ⟨_, h⟩) => .inr (.inl (.base (.tup h)))
  | .ref _, .inr (.inr ⟨_, h⟩) => .inr (.inr (.base (.dK h)))
  | .byt _, h => h.elim
  | .flt _, h => h.elim
  | .ty _, h => h.elim
theorem kn_dp {v : V} {d : PyData} (h : Dp K H v d) : Kn K H v := by
  cases h with
  | non => trivial
  | bl _ => trivial
  | int _ => trivial
  | str _ => trivial
  | lst h _ => exact .inl (ty_l h)
  | tup h _ => exact .inr (.inl (ty_t h))
theorem isk_str : ∀ {v : V}, Kn K H v → IsiV K H v "str" (isStr v)
  | .non, _ => isi_ty (b := false) (.base .non) (by decide +kernel)
  | .bl _, _ => isi_ty (b := false) (.base (.bl _)) (by decide +kernel)
  | .int _, _ => isi_ty (b := false) (.base (.int _)) (by decide +kernel)
  | .str _, _ => isi_ty (b := true) (.base (.str _)) (by decide +kernel)
  | .ref _, .inl h => isi_ty (b := false) h (by decide +kernel)
  | .ref _, .inr (.inl h) => isi_ty (b := false) h (by decide +kernel)
  | .ref _, .inr (.inr h) => isi_ty (b := false) h (by decide +kernel)
theorem isk_int : ∀ {v : V}, Kn K H v → IsiV K H v "int" (isInt v)
  | .non, _ => isi_ty (b := false) (.base .non) (by decide +kernel)
  | .bl _, _ => isi_ty (b := true) (.base (.bl _)) (by decide +kernel)
  | .int _, _ => isi_ty (b := true) (.base (.int _)) (by decide +kernel)
  | .str _, _ => isi_ty (b := false) (.base (.str _)) (by decide +kernel)
  | .ref _, .inl h => isi_ty (b := false) h (by decide +kernel)
  | .ref _, .inr (.inl h) => isi_ty (b := false) h (by decide +kernel)
  | .ref _, .inr (.inr h) => isi_ty (b := false) h (by decide +kernel)
theorem isk_bool : ∀ {v : V}, Kn K H v → IsiV K H v "bool" (isBl v)
  | .non, _ => isi_ty (b := false) (.base .non) (by decide +kernel)
  | .bl _, _ => isi_ty (b := true) (.base (.bl _)) (by decide +kernel)
  | .int _, _ => isi_ty (b := false) (.base (.int _)) (by decide +kernel)
  | .str _, _ => isi_ty (b := false) (.base (.str _)) (by decide +kernel)
  | .ref _, .inl h => isi_ty (b := false) h (by decide +kernel)
  | .ref _, .inr (.inl h) => isi_ty (b := false) h (by decide +kernel)
  | .ref _, .inr (.inr h) => isi_ty (b := false) h (by decide +kernel)
def isTupD : PyData → Bool | .tuple _ => true | _ => false
theorem isk_tup {v : V} {d : PyData} (h : Dp K H v d) : IsiV K H v "tuple" (isTupD d) := by
  cases h with
  | non => exact isi_ty (b := false) (.base .non) (by decide +kernel)
  | bl _ => exact isi_ty (b := false) (.base (.bl _)) (by decide +kernel)
  | int _ => exact isi_ty (b := false) (.base (.int _)) (by decide +kernel)
  | str _ => exact isi_ty (b := false) (.base (.str _)) (by decide +kernel)
  | lst h _ => exact isi_ty (b := false) (ty_l h) (by decide +kernel)
  | tup h _ => exact isi_ty (b := true) (ty_t h) (by decide +kernel)
def isLstD : PyData → Bool | .list _ => true | _ => false
theorem isk_lst {v : V} {d : PyData} (h : Dp K H v d) : IsiV K H v "list" (isLstD d) := by
  cases h with
  | non => exact isi_ty (b := false) (.base .non) (by decide +kernel)
  | bl _ => exact isi_ty (b := false) (.base (.bl _)) (by decide +kernel)
  | int _ => exact isi_ty (b := false) (.base (.int _)) (by decide +kernel)
  | str _ => exact isi_ty (b := false) (.base (.str _)) (by decide +kernel)
  | lst h _ => exact isi_ty (b := true) (ty_l h) (by decide +kernel)
  | tup h _ => exact isi_ty (b := false) (ty_t h) (by decide +kernel)
/-- what data lean on: every address's object that is read -/
theorem sqt_keep {p : Addr} {xs : List V} (k : ∀ o, H p = some o → H' p = some o) (h : SqT K H p xs) : SqT K H' p xs := by
  rcases h with (h | ⟨o, h⟩) | h
  · exact .inl (.inl (k _ h))
  · exact .inl (.inr ⟨o, k _ h⟩)
  · exact .inr h
theorem sql_keep {p : Addr} {xs : List V} (k : ∀ o, H p = some o → H' p = some o) (h : SqL K H p xs) : SqL K H' p xs := by
  rcases h with (h | ⟨o, h⟩) | h
  · exact .inl (.inl (k _ h))
  · exact .inl (.inr ⟨o, k _ h⟩)
  · exact .inr h
mutual
theorem dp_keep (k : ∀ p o, H p = some o → H' p = some o) : ∀ {v : V} {d : PyData}, Dp K H v d → Dp K H' v d
  | _, _, .non => .non
  | _, _, .bl b => .bl b
  | _, _, .int i => .int i
  | _, _, .str z => .str z
  | _, _, .lst h a => .lst (sql_keep (k _) h) (dpa_keep k a)
  | _, _, .tup h a => .tup (sqt_keep (k _) h) (dpa_keep k a)
theorem dpa_keep (k : ∀ p o, H p = some o → H' p = some o) : ∀ {vs : List V} {ds : List PyData}, DpAll K H vs ds → DpAll K H' vs ds
  | _, _, .nil => .nil
  | _, _, .cons h a => .cons (dp_keep k h) (dpa_keep k a)
end
theorem dpa_len : ∀ {vs : List V} {ds : List PyData}, DpAll K H vs ds → vs.length = ds.length
  | _, _, .nil => rfl
  | _, _, .cons _ a => congrArg (· + 1) (dpa_len a)
theorem dpa_at : ∀ {vs : List V} {ds : List PyData}, DpAll K H vs ds → ∀ {i : Nat} {v : V}, vs[i]? = some v → ∃ d, ds[i]? = some d ∧ Dp K H v d
  | _, _, .nil, i, v, e => by simp at e
  | _, _, .cons h _, 0, v, e => by cases Option.some.inj e; exact ⟨_, rfl, h⟩
  | _, _, .cons _ a, i + 1, v, e => dpa_at a (i := i) (by simpa using e)
/-- data that do not lean on what stands at a -/
def hid (a : Addr) (H : Hp) : Hp := fun b => if b = a then none else H b
abbrev Da (K : PySem.W.Frag) (a : Addr) (H : Hp) (v : V) (d : PyData) : Prop := Dp K (hid a H) v d
theorem Da.dp {a : Addr} {v : V} {d : PyData} (h : Da K a H v d) : Dp K H v d := dp_keep (fun p o e => by
  unfold hid at e
  split at e
  · cases e
  · exact e) h
theorem Da.dr {a : Addr} {v : V} {d : PyData} (h : Da K a H v d) (x : Dr a H H') : Da K a H' v d := dp_keep (fun p o e => by
  unfold hid at e ⊢
  split at e
  · cases e
  · rename_i n
    rw [if_neg n]
    exact x.kp p o n e) h
theorem dp_ne {a : Addr} {v : V} {d : PyData} (n : H a = none) (h : Dp K H v d) : Da K a H v d := dp_keep (fun p o e => by
  unfold hid
  rw [if_neg (ne_of_none e n)]
  exact e) h
/-- equality of data -/
theorem eq_d {v u : V} {d e : PyData} {Q : VK} (h : Dp K H v d) (g : Dp K H u e) (s1 : SeqAt.shaped d = true) (s2 : SeqAt.shaped e = true) (hs : scal v u = false) (q : Q (.bl (PyData.eqv d e)) H) : rEqU K v u H Q := by
  unfold rEqU
  rw [hs]
  exact ⟨d, e, h, g, s1, s2, q⟩
end
/-! ### own exceptions over ValueError, without an own __init__ -/
abbrev veB : List Value := [.type "ValueError", .type "Exception", .type "BaseException", .type "object"]
/-- what the class at C, named x, must say -/
structure Exc (K : PySem.W.Frag) (mg : Str → Option Value) (x : Str) (C : Addr) : Prop where
  g : mg x = some (.ref C)
  x : PySem.W.excIn K C veB "ValueError.__new__" = true
  k : PySem.W.keepIn K (.ref C) = true
  b : PySem.W.subIn K (.ref C) (.type "BaseException") = some true
  t : PySem.W.typeIn K (.ref C) = some (.type "type")
  d : PySem.W.hasDictIn K C = true
  v : PySem.W.subIn K (.ref C) (.type "ValueError") = some true
  cc : ExcC K C
theorem pmk_exc {X : Cx} {x m : Str} {C : Addr} {j : Nat} {p p2 pos : Pos} (e : Exc X.K X.mg x C) (hg : Gl X x := by rfl) (hdb : (x == ("__debug__" : Str)) = false := by decide) :
    PMk X (.Call (.Name x p) [.Constant (.str m) j p2] [] pos) (fun _ H Q => Q (.ref C) none H) :=
  pmk_own PySem.F.excBase_ValueError e.x e.g e.k (raises_own e.b e.t) hg hdb
theorem ps_rai {X : Cx} {x m : Str} {C : Addr} {j : Nat} {p p2 pos pos2 : Pos} {W : WX} (e : Exc X.K X.mg x C) (tk : Takes X W) (hc : X.calm = true := by rfl) (hg : Gl X x := by rfl) (hdb : (x == ("__debug__" : Str)) = false := by decide) :
    PS X (.Raise (some (.Call (.Name x p) [.Constant (.str m) j p2] [] pos)) none pos2) (fun _ σ H => W (.ref C) none σ H) := ps_raise hc tk (pmk_exc e hg hdb)
/-- C is under D, or not -/
theorem exc_under {K : PySem.W.Frag} {mg : Str → Option Value} {x y : Str} {C D : Addr} {b : Bool} (e : Exc K mg x C) (f : Exc K mg y D) (h : PySem.W.subIn K (.ref C) (.ref D) = some b) : PySem.W.exmOne K (.ref C) (.ref D) = some b := PySem.W.exm_ref f.b f.d f.t h
theorem exc_kit {K : PySem.W.Frag} {mg : Str → Option Value} {x y : Str} {C D : Addr} {b : Bool} (f : Exc K mg y D) (hne : C = D → b = true) (h : PySem.W.subIn K (.ref C) (.ref D) = some b) : PySem.W.kitOne K (.ref C) (.ref D) = some b := by
  unfold PySem.W.kitOne
  by_cases e : C = D
  · subst e
    rw [hne rfl]
    simp
  · have n : ((Value.ref C) == Value.ref D) = false := by
      simp only [beq_eq_false_iff_ne, ne_eq, Value.ref.injEq]
      exact e
    rw [n]
    have z := PySem.W.exm_ref f.b f.d f.t h
    unfold PySem.W.exmOne at z
    rw [f.b] at z
    simpa using z
/-- isinstance(e, c) in a suite -/
def rIsX (K : PySem.W.Frag) (cls : Value) (d : Option Addr) (a : Addr) : List V → Hp → VK → Prop := fun xs H Q => ∃ D, cls = .ref D ∧ d = none ∧ ExcC K D ∧ rIsE K D a xs H Q
theorem callU_isX {X : Cx} {K : PySem.W.Frag} {a : Addr} {cls : Value} {d : Option Addr} {oe : Obj} {pn : List (Addr × Obj)} (hz : Zc cls d oe) (hf : ∃ vs, oe.data = .fields vs) (hK : X.K = K := by rfl) : CallR (X.suite a ((a, oe) :: pn)) (.builtin "isinstance") (rIsX K cls d a) := by
  subst hK
  intro pins s σ H xs us Q I r h
  obtain ⟨D, rfl, rfl, c, h⟩ := h
  exact call_isE c hz hf pins s σ H xs us Q I r h
/-- try .. except x as n -/
theorem ps_tryA {X : Cx} {K : PySem.W.Frag} {x n : Str} {C : Addr} {i : Nat} {body suite : List Stmt} {b₀ : Stmt} {np pos pos' : Pos} {tb : WX → TS} {ts : Addr → Value → Option Addr → TS} {Wout : WX} (e : Exc X.K X.mg x C) (hN : X.N.Nodup) (hi : X.N[i]? = some n) (tk : Takes X Wout)
    (hb : ∀ (W : WX) (pn : List (Addr × Obj)) (xe : Value → Shared → Prop), Takes (X.tr pn xe) W → PassesOwn (model X.prog X.w) X.A X.env xe → PSs (X.tr pn xe) body (tb W))
    (hsu : ∀ (a : Addr) (oe : Obj) (cls : Value) (d : Option Addr) (pn : List (Addr × Obj)), Zc cls d oe → (∃ vs, oe.data = .fields vs) → PSs (X.suite a ((a, oe) :: pn)) (b₀ :: suite) (ts a cls d))
    (hs : X.stack = X.env :: X.outer := by rfl) (hf : X.env.frame = some X.env.locals := by rfl) (hln : X.env.kindOf n = some .local := by rfl) (hg : Gl X x := by rfl) (hdb : (x == ("__debug__" : Str)) = false := by decide) (hK : X.K = K := by rfl) :
    PS X (.Try body [.ExceptHandler (some (.Name x np)) (some n) (b₀ :: suite) pos'] [] [] pos) (fun D σ H => tb (wAs K (.ref C) i ts Wout D) D σ H) := by
  subst hK
  exact ps_try_as hs hf hN hi hln ⟨hg, hdb, .inl e.g⟩ tk hb hsu
/-- try .. except x -/
theorem ps_tryO {X : Cx} {K : PySem.W.Frag} {x : Str} {C : Addr} {body suite : List Stmt} {b₀ : Stmt} {np pos pos' : Pos} {tb : WX → TS} {ts : Addr → Value → Option Addr → TS} {Wout : WX} (e : Exc X.K X.mg x C) (tk : Takes X Wout)
    (hb : ∀ (W : WX) (pn : List (Addr × Obj)) (xe : Value → Shared → Prop), Takes (X.tr pn xe) W → PassesOwn (model X.prog X.w) X.A X.env xe → PSs (X.tr pn xe) body (tb W))
    (hsu : ∀ (a : Addr) (oe : Obj) (cls : Value) (d : Option Addr) (pn : List (Addr × Obj)), Zc cls d oe → (∃ vs, oe.data = .fields vs) → PSs (X.suite a ((a, oe) :: pn)) (b₀ :: suite) (ts a cls d))
    (hs : X.stack = X.env :: X.outer := by rfl) (hf : X.env.frame = some X.env.locals := by rfl) (hg : Gl X x := by rfl) (hdb : (x == ("__debug__" : Str)) = false := by decide) (hK : X.K = K := by rfl) :
    PS X (.Try body [.ExceptHandler (some (.Name x np)) none (b₀ :: suite) pos'] [] [] pos) (fun D σ H => tb (wOnly K (.ref C) ts Wout D) D σ H) := by
  subst hK
  exact ps_try_only hs hf ⟨hg, hdb, .inl e.g⟩ tk hb hsu
/-- a call that may raise: what is wished at the caller's slots -/
def cCallE (sp : Sp) (W : WX) (t : TA) : TE := fun σ H Q => t σ H fun vs H1 => sp vs H1 Q fun c d H' => W c d σ H'
end R
namespace R
open PySem PySem.Spec PyProof.Rows L2
section
variable {X : Cx} {k j : Nat} {x m : Str} {ps : List Str} {sp : Sp} {W : WX} {p pos apos : Pos} {e o : Expr} {es : List Expr} {ta : TE} {t : TA} {C : Addr}
theorem mono_a {es : List Expr} {t : TA} (ha : PA X es t) : PA X es (fun σ H Q => ∃ Q0 : List V → Hp → Prop, (∀ v H', Q0 v H' → Q v H') ∧ t σ H Q0) := ⟨fun pos pins s σ H Q I q => by
  obtain ⟨Q0, w, z⟩ := q
  exact thn (ha.run pos pins s σ H Q0 I z) fun u s1 ⟨v, H1, I1, r, q1⟩ => ⟨v, H1, I1, r, w v H1 q1⟩⟩
/-- f(..), f may raise -/
theorem pe_fS (O : Ok X.prog X.w X.K X.mg X.base k x ps sp) (hr : Room k X.A) (tk : Takes X W) (ha : PA X (e :: es) t) (hg : Gl X x := by rfl)
    (hdb : (x == ("__debug__" : Str)) = false := by decide) (he : starEach (e :: es) X.env = (false, eval e X.env) :: starEach es X.env := by rfl) (hpl : (backTo pos (starEach es X.env)).any (·.1) = false := by rfl) :
    PE X (.Call (.Name x p) (e :: es) [] pos) (cCallE sp W t) := by
  obtain ⟨f, fd, h1, h2, h3, F⟩ := O.ex
  exact pe_callS F hr hg h1 h2 h3 (fun σ => passAt tk σ) ha hdb he hpl
/-- a class's def: at C found by the name m -/
structure MtAt (K : PySem.W.Frag) (C : Addr) (m qual : Str) (st : Stmt) (ps : List Str) : Prop where
  ex : ∃ f fd, Meth K C m f ∧ Fun K m qual st f fd ∧ Binds K fd ps []
structure OkM (P : Program) (w : World) (K : PySem.W.Frag) (mg : Str → Option Value) (base : Heap) (k : Nat) (C : Addr) (m : Str) (ps : List Str) (sp : Sp) : Prop where
  ex : ∃ f fd, Meth K C m f ∧ Binds K fd ps [] ∧ FnOk P w K mg base (L2.CX P w) k f fd ps sp
theorem okM {P : Program} {w : World} {K : PySem.W.Frag} {mg : Str → Option Value} {base : Heap} {m qual : Str} {st : Stmt} {N ps : List Str} {k : Nat} {sp : Sp} {C : Addr} (F : MtAt K C m qual st ps) (S : FnScope N ps (defScope st)) (len : ∀ vs H Q E, sp vs H Q E → vs.length = ps.length)
    (hbody : ∀ (f : Addr) (cdv : Value) (A : Around) (outer : List Env) (s : Shared) (H : Hp) (vs : List V) (Q : VK) (E : XK), Room k (A.deeper (envOfC qual (defScope st) s.heap.objs.size f cdv)) → sp vs H Q E →
      ∃ t, PSs (cxOf (L2.CX P w) P w K mg base N qual (defScope st) f cdv A outer s H (bE H E)) (defBody st) t ∧ t { nx := fun _ H' => bQ H Q .non H', rt := bQ H Q } (start N vs) H) : OkM P w K mg base (k + 1) C m ps sp := by
  obtain ⟨f, fd, h1, h2, h3⟩ := F.ex
  exact ⟨f, fd, h1, h3, okX h2 S len (hbody f)⟩
def cMeth (CS : Addr → Prop) (m : Str) (sp : Addr → Sp) (W : WX) (ta : TE) (t : TA) : TE := fun σ H Q => ta σ H fun x H1 => ∃ a C dx fs, x = .ref a ∧ H1 a = some (.ins C dx fs) ∧ CS C ∧ fs.lookup m = none ∧
  t σ H1 fun vs H2 => sp C (x :: vs) H2 Q fun c d H' => W c d σ H'
/-- o.m(..), of an instance of one of the classes CS -/
theorem pe_mS {CS : Addr → Prop} {sp : Addr → Sp} {pl : Sem Bool} (he : PE X o ta) (c : ∀ C, CS C → Cls X.K C) (O : ∀ C, CS C → OkM X.prog X.w X.K X.mg X.base k C m ps (sp C)) (hr : Room k X.A) (tk : Takes X W) (ha : PA X (e :: es) t)
    (hst : starEach (e :: es) X.env = (false, eval e X.env) :: starEach es X.env := by rfl) (hpl : (backTo pos (starEach es X.env)).any (·.1) = false := by rfl)
    (ht : eval (.Call (.Attribute o m apos) (e :: es) [] pos) X.env = (do
      let ov ← eval o X.env
      standAt apos.atName
      let (f, first) ← holding [ov] (getMethod ov m pl)
      callWith pos f first (backTo pos (starEach (e :: es) X.env)) (backToKw pos (keywordEach [] X.env))) := by rfl) :
    PE X (.Call (.Attribute o m apos) (e :: es) [] pos) (cMeth CS m sp W ta t) := by
  refine ⟨fun pins s σ H Q I h => ?_⟩
  refine PySem.W.methodCall_KW (pl := pl) (thn (he.run pins s σ H _ I h) fun u s1 ⟨x, H1, I1, rx, a, C, dx, fs, ex, ea, cs, l, q⟩ => ?_) ht
  subst ex
  obtain rfl : u = Value.ref a := rx
  obtain ⟨f, fd, hm, hb, F⟩ := (O C cs).ex
  refine getmeth_ok I1 ea (c C cs) hm l ?_
  refine PySem.W.callWith_K (first := [.ref a]) (h₀ := X.base) I.ok.mod.kin hm.kp (thn (ha.run pos pins s1 σ H1 _ I1 q) fun us s2 ⟨vs, H2, I2, r, q2⟩ => ⟨I2.kIn, ?_⟩) hst hpl
  exact run_fnS (us := .ref a :: us) (vs := .ref a :: vs) F hr hb (passAt tk σ) I2 (.cons rfl r) q2
theorem pe_mS0 {CS : Addr → Prop} {sp : Addr → Sp} {pl : Sem Bool} (he : PE X o ta) (c : ∀ C, CS C → Cls X.K C) (O : ∀ C, CS C → OkM X.prog X.w X.K X.mg X.base k C m ps (sp C)) (hr : Room k X.A) (tk : Takes X W)
    (ht : eval (.Call (.Attribute o m apos) [] [] pos) X.env = (do
      let ov ← eval o X.env
      standAt apos.atName
      let (f, first) ← holding [ov] (getMethod ov m pl)
      callWith pos f first (backTo pos (starEach [] X.env)) (backToKw pos (keywordEach [] X.env))) := by rfl) :
    PE X (.Call (.Attribute o m apos) [] [] pos) (cMeth CS m sp W ta tNil) := by
  refine ⟨fun pins s σ H Q I h => ?_⟩
  refine PySem.W.methodCall_KW (pl := pl) (thn (he.run pins s σ H _ I h) fun u s1 ⟨x, H1, I1, rx, a, C, dx, fs, ex, ea, cs, l, q⟩ => ?_) ht
  subst ex
  obtain rfl : u = Value.ref a := rx
  obtain ⟨f, fd, hm, hb, F⟩ := (O C cs).ex
  refine getmeth_ok I1 ea (c C cs) hm l ?_
  exact PySem.W.callWith_K0 (first := [.ref a]) I1.kIn hm.kp (run_fnS (us := [.ref a]) (vs := [.ref a]) F hr hb (passAt tk σ) I1 (.cons rfl .nil) q)
/-- a class that makes instances -/
structure MkAt (K : PySem.W.Frag) (mg : Str → Option Value) (x : Str) (C : Addr) (qual : Str) (st : Stmt) (ps : List Str) : Prop where
  ex : mg x = some (.ref C) ∧ ∃ f fd, Mk K C f ∧ Fun K "__init__" qual st f fd ∧ Binds K fd ps []
structure OkI (P : Program) (w : World) (K : PySem.W.Frag) (mg : Str → Option Value) (base : Heap) (k : Nat) (x : Str) (C : Addr) (ps : List Str) (sp : Sp) : Prop where
  ex : mg x = some (.ref C) ∧ ∃ f fd, Mk K C f ∧ Binds K fd ps [] ∧ FnOk P w K mg base (L2.CX P w) k f fd ps sp
theorem okI {P : Program} {w : World} {K : PySem.W.Frag} {mg : Str → Option Value} {base : Heap} {x qual : Str} {st : Stmt} {N ps : List Str} {k : Nat} {sp : Sp} {C : Addr} (F : MkAt K mg x C qual st ps) (S : FnScope N ps (defScope st)) (len : ∀ vs H Q E, sp vs H Q E → vs.length = ps.length)
    (hbody : ∀ (f : Addr) (cdv : Value) (A : Around) (outer : List Env) (s : Shared) (H : Hp) (vs : List V) (Q : VK) (E : XK), Room k (A.deeper (envOfC qual (defScope st) s.heap.objs.size f cdv)) → sp vs H Q E →
      ∃ t, PSs (cxOf (L2.CX P w) P w K mg base N qual (defScope st) f cdv A outer s H (bE H E)) (defBody st) t ∧ t { nx := fun _ H' => bQ H Q .non H', rt := bQ H Q } (start N vs) H) : OkI P w K mg base (k + 1) x C ps sp := by
  obtain ⟨g, f, fd, h1, h2, h3⟩ := F.ex
  exact ⟨g, f, fd, h1, h3, okX h2 S len (hbody f)⟩
/-- C(..) -/
def cMake (C : Addr) (sp : Sp) (W : WX) (t : TA) : TE := fun σ H Q => t σ H fun vs H1 => ∀ x dx, H1 x = none → H1 dx = none → dx ≠ x →
  sp (.ref x :: vs) (upd (upd H1 dx (.own x)) x (.ins C dx [])) (fun v H2 => v = .non ∧ Q (.ref x) H2) fun c d H' => W c d σ H'
theorem run_makeS {pins : List (Addr × Obj)} {σ : L2.St} {H : Hp} {s : Shared} {Q : VK} {us : List Value} {vs : List V} {f : Addr} {fd : FuncData} (M : Mk X.K C f) (F : FnOk X.prog X.w X.K X.mg X.base (L2.CX X.prog X.w) k f fd ps sp) (hr : Room (k + 1) X.A) (hb : Binds X.K fd ps []) (tk : Takes X W)
    (I : Inv X pins σ H s) (r : Vals vs us)
    (h : ∀ x dx, H x = none → H dx = none → dx ≠ x → sp (.ref x :: vs) (upd (upd H dx (.own x)) x (.ins C dx [])) (fun v H2 => v = .non ∧ Q (.ref x) H2) fun c d H' => W c d σ H') :
    wpAny (model X.prog X.w) X.A (call (.ref C) us) (EP X pins σ Q) X.xe s := by
  have hq := h (s.heap.objs.size + 1) s.heap.objs.size (I.hok.fresh (Nat.le_succ _)) (I.hok.fresh (Nat.le_refl _)) (Nat.ne_of_lt (Nat.lt_succ_self _))
  have I2 := Inv.made (C := C) I
  have r2 : Vals (V.ref (s.heap.objs.size + 1) :: vs) (Value.ref (s.heap.objs.size + 1) :: us) := .cons rfl r
  have hl : (Value.ref (s.heap.objs.size + 1) :: us).length = ps.length := by
    have e := r2.length
    rw [F.len _ _ _ _ hq] at e
    exact e.symm
  have b := hb _ (Value.ref (s.heap.objs.size + 1) :: us) I2.kIn (by rw [List.append_nil]; exact hl)
  rw [List.append_nil] at b
  refine wpAny_call (make_map (f := f) I.kIn M.makes M.init (beq_iff_eq.mp M.fn) (codeAny_mono (F.run _ X.stack _ _ ⟨Value.ref (s.heap.objs.size + 1) :: us, []⟩ (Value.ref (s.heap.objs.size + 1) :: us) _ _ _ (hr.make C us [])
    (I2.env0.make C us []) b r2 hq) fun r s' hq' => ?_))
  cases r with
  | error e => exact passAt tk σ pins _ _ e s' I2 hq'
  | ok fl =>
    cases fl with
    | ret u =>
      obtain ⟨v, H', I3, rv, ev, q3⟩ := I2.after hq'
      subst ev
      exact ⟨rv, ⟨V.ref (s.heap.objs.size + 1), H', I3, rfl, q3⟩⟩
    | next => exact False.elim hq'
    | brk => exact False.elim hq'
    | cont => exact False.elim hq'
theorem pe_mkS (O : OkI X.prog X.w X.K X.mg X.base k x C ps sp) (hr : Room (k + 1) X.A) (tk : Takes X W) (ha : PA X (e :: es) t) (hg : Gl X x := by rfl)
    (hdb : (x == ("__debug__" : Str)) = false := by decide) (he : starEach (e :: es) X.env = (false, eval e X.env) :: starEach es X.env := by rfl) (hpl : (backTo pos (starEach es X.env)).any (·.1) = false := by rfl) :
    PE X (.Call (.Name x p) (e :: es) [] pos) (cMake C sp W t) := by
  obtain ⟨g, f, fd, M, hb, F⟩ := O.ex
  refine ⟨fun pins s σ H Q I h => ?_⟩
  refine wpAny_Call_Name_kw (ld_glob I hg g ?_ hdb)
  refine PySem.W.callWith_K (h₀ := X.base) I.ok.mod.kin M.kp (thn (ha.run pos pins s σ H _ I h) fun us s1 ⟨vs, H1, I1, r, q⟩ => ⟨I1.kIn, ?_⟩) he hpl
  exact run_makeS M F hr hb tk I1 r q
theorem pe_mkS0 (O : OkI X.prog X.w X.K X.mg X.base k x C ps sp) (hr : Room (k + 1) X.A) (tk : Takes X W) (hg : Gl X x := by rfl)
    (hdb : (x == ("__debug__" : Str)) = false := by decide) : PE X (.Call (.Name x p) [] [] pos) (cMake C sp W tNil) := by
  obtain ⟨g, f, fd, M, hb, F⟩ := O.ex
  refine ⟨fun pins s σ H Q I h => ?_⟩
  refine wpAny_Call_Name_kw (ld_glob I hg g ?_ hdb)
  exact PySem.W.callWith_K0 I.kIn M.kp (run_makeS (us := []) M F hr hb tk I .nil h)
/-- what isinstance asks of an own class's instance -/
structure OwnC (K : PySem.W.Frag) (mg : Str → Option Value) (x : Str) (C : Addr) : Prop where
  g : mg x = some (.ref C)
  cl : Cls K C
  ha : PySem.W.findIn K (.ref C) "__class__" = some (some (.builtin "object.__class__"))
  hn : PySem.W.specialIn K (.builtin "object.__class__") "__get__" = some (some (.builtin "getset_descriptor.__get__"))
  ht : PySem.W.takesIn K (.builtin "object.__class__") = some true
  hm : PySem.W.mroIn K C (.type "object") = some true
theorem OwnC.ty {K : PySem.W.Frag} {mg : Str → Option Value} {x : Str} {C a dx : Addr} {H : Hp} {fs : List (Str × V)} (o : OwnC K mg x C) (h : H a = some (.ins C dx fs)) : TyX K H (.ref a) (.ref C) := .base (.ins h o.cl o.ha o.hn o.ht o.hm)
theorem Wf.ins {H : Hp} {a C dx : Addr} {fs gs : List (Str × V)} (w : Wf H) (h : H a = some (.ins C dx fs)) : Wf (upd H a (.ins C dx gs)) := fun b u e => by
  have hd : H dx = some (.own a) := by
    rcases w a _ h with f | ⟨C', dx', fs', e', hd⟩
    · exact f.elim
    · cases e'
      exact hd
  have nda : dx ≠ a := ne_of hd h (fun z => by cases z)
  by_cases hb : b = a
  · subst hb
    rw [upd_same] at e
    cases e
    exact .inr ⟨C, dx, gs, rfl, by rw [upd_ne nda]; exact hd⟩
  · rw [upd_ne hb] at e
    rcases w b u e with f | ⟨C', dx', fs', rfl, hd'⟩
    · exact .inl f
    · refine .inr ⟨C', dx', fs', rfl, ?_⟩
      have n : dx' ≠ a := ne_of hd' h (fun z => by cases z)
      rw [upd_ne n]
      exact hd'
/-- a new instance stands -/
theorem Wf.made {H : Hp} {x dx C : Addr} {fs : List (Str × V)} (w : Wf H) (nx : H x = none) (nd : H dx = none) (ne : dx ≠ x) : Wf (upd (upd H dx (.own x)) x (.ins C dx fs)) := fun b u e => by
  by_cases hb : b = x
  · subst hb
    rw [upd_same] at e
    cases e
    exact .inr ⟨C, dx, fs, rfl, by rw [upd_ne ne, upd_same]⟩
  · rw [upd_ne hb] at e
    by_cases hd : b = dx
    · subst hd
      rw [upd_same] at e
      cases e
      exact .inl trivial
    · rw [upd_ne hd] at e
      rcases w b u e with f | ⟨C', dx', fs', rfl, h⟩
      · exact .inl f
      · refine .inr ⟨C', dx', fs', rfl, ?_⟩
        rw [upd_ne (ne_of_none h nx), upd_ne (ne_of_none h nd)]
        exact h
end
end R
namespace R
open PySem PySem.Spec PyProof.Rows L2
theorem dpa5 {K : PySem.W.Frag} {H : Hp} {xs : List V} {ds : List PyData} (h : DpAll K H xs ds) (l : xs.length = 5) :
    ∃ x1 x2 x3 x4 x5 d1 d2 d3 d4 d5, xs = [x1, x2, x3, x4, x5] ∧ ds = [d1, d2, d3, d4, d5] ∧ Dp K H x1 d1 ∧ Dp K H x2 d2 ∧ Dp K H x3 d3 ∧ Dp K H x4 d4 ∧ Dp K H x5 d5 := by
  cases h with
  | nil => cases l
  | cons g1 h =>
    cases h with
    | nil => cases l
    | cons g2 h =>
      cases h with
      | nil => cases l
      | cons g3 h =>
        cases h with
        | nil => cases l
        | cons g4 h =>
          cases h with
          | nil => cases l
          | cons g5 h =>
            cases h with
            | nil => exact ⟨_, _, _, _, _, _, _, _, _, _, rfl, rfl, g1, g2, g3, g4, g5⟩
            | cons g6 h => simp at l
end R
namespace R
open PySem PySem.Spec PyProof.Rows L2
theorem hid_at {a b : Addr} {H : Hp} {o : HO} (n : b ≠ a) (h : H b = some o) : hid a H b = some o := by
  unfold hid
  rw [if_neg n]
  exact h
theorem exc_is {K : PySem.W.Frag} {mg : Str → Option Value} {x y : Str} {C D : Addr} {b : Bool} (e : Exc K mg x C) (s : PySem.W.subIn K (.ref C) (.ref C) = some true) (f : Exc K mg y D) (h : PySem.W.subIn K (.ref C) (.ref D) = some b) : PySem.W.kitOne K (.ref C) (.ref D) = some b :=
  exc_kit (x := x) f (fun z => by
    subst z
    rw [s] at h
    exact (Option.some.inj h).symm) h
theorem exc_ve {K : PySem.W.Frag} {mg : Str → Option Value} {x : Str} {C : Addr} (e : Exc K mg x C) : PySem.W.kitOne K (.ref C) (.type "ValueError") = some true := by
  unfold PySem.W.kitOne
  have n : ((Value.ref C) == Value.type "ValueError") = false := by simp
  rw [n]
  have m : PySem.W.kitMeta "ValueError" = true := by decide +kernel
  unfold PySem.W.kitCls
  simp only [m, if_true]
  simpa using e.v
theorem at_last {α : Type} {xs : List α} (h : xs ≠ []) : ∃ v, atI xs (-1) = some v ∧ v ∈ xs := by
  refine ⟨xs.getLast h, ?_, List.getLast_mem h⟩
  conv => lhs; rw [← List.dropLast_concat_getLast h]
  exact atI_last _ _
theorem cut_mem {xs : List V} {lo hi : Option Int} {v : V} (h : v ∈ cutV xs lo hi) : v ∈ xs := by
  unfold cutV at h
  exact List.mem_of_mem_drop (List.mem_of_mem_take h)
theorem cut_len {xs : List V} {lo hi : Option Int} : (cutV xs lo hi).length ≤ xs.length := by
  unfold cutV
  rw [List.length_take, List.length_drop]
  omega
end R
namespace R
open PySem PySem.Spec PyProof.Rows L2
theorem Dr.free {a p : Addr} {H H' : Hp} (x : Dr a H H') (n : H' p = none) : H p = none := by
  cases e : H p with
  | none => rfl
  | some o =>
    by_cases h : p = a
    · subst h
      obtain ⟨_, _, z, _⟩ := x.st
      rw [n] at z
      cases z
    · rw [x.kp p o h e] at n
      cases n
end R
namespace R
open PySem PySem.Spec PyProof.Rows L2
theorem tups_put {K : PySem.W.Frag} {H : Hp} {R : Addr} {xs : List V} {o : HO} (e : H R = some (.lst xs)) : ∀ p ys, SqT K H p ys → SqT K (upd H R o) p ys := fun p ys h => by
  rcases h with (h | ⟨z, h⟩) | h
  · exact .inl (.inl (by rw [upd_ne (ne_of h e (fun z => by cases z))]; exact h))
  · exact .inl (.inr ⟨z, by rw [upd_ne (ne_of h e (fun z => by cases z))]; exact h⟩)
  · exact .inr h
theorem same_put {H H' : Hp} {R : Addr} {o : HO} (s : Same H H') (n : H R = none) : Same H (upd H' R o) := fun b u e => by
  rw [upd_ne (ne_of_none e n)]
  exact s b u e
theorem st_put {H : Hp} {a R : Addr} {o : HO} (s : St2 H a) (n : R ≠ a) : St2 (upd H R o) a := by
  obtain ⟨p, q, e, h⟩ := s
  exact ⟨p, q, by rw [upd_ne n.symm]; exact e, h⟩
end R
namespace R
open PySem PySem.Spec PyProof.Rows L2
theorem pe_xc {X : Cx} {x : Str} {C : Addr} {pos : Pos} (e : Exc X.K X.mg x C) (hg : Gl X x := by rfl) (hd : (x == ("__debug__" : Str)) = false := by decide) : PE X (.Name x pos) (tC (.ref C)) := pe_glob hg e.g rfl hd
theorem pe_oc {X : Cx} {x : Str} {C : Addr} {pos : Pos} (e : OwnC X.K X.mg x C) (hg : Gl X x := by rfl) (hd : (x == ("__debug__" : Str)) = false := by decide) : PE X (.Name x pos) (tC (.ref C)) := pe_glob hg e.g rfl hd
theorem stL_ne {p q : Int} {xs : List V} : HO.tup xs ≠ stL p q := fun z => by cases z
theorem Dr.tups {K : PySem.W.Frag} {a : Addr} {H H' : Hp} (x : Dr a H H') (s : St2 H a) : ∀ p xs, SqT K H p xs → SqT K H' p xs := fun p xs h => by
  rcases h with (h | ⟨o, h⟩) | h
  · exact .inl (.inl (x.at h (fun _ _ => stL_ne) s))
  · refine .inl (.inr ⟨o, x.at h (fun _ _ z => by cases z) s⟩)
  · exact .inr h
theorem same_tups {K : PySem.W.Frag} {H H' : Hp} (x : Same H H') : ∀ p xs, SqT K H p xs → SqT K H' p xs := fun p xs h => sqt_keep (fun o e => x p o e) h
end R
namespace R
open PySem PySem.Spec PyProof.Rows L2
/-- two lists side by side -/
inductive Al2 {α β : Type} (P : α → β → Prop) : List α → List β → Prop where
  | nil : Al2 P [] []
  | cons {a b xs ys} : P a b → Al2 P xs ys → Al2 P (a :: xs) (b :: ys)
namespace Al2
variable {α β : Type} {P P' : α → β → Prop}
theorem len : ∀ {xs : List α} {ys : List β}, Al2 P xs ys → xs.length = ys.length
  | _, _, .nil => rfl
  | _, _, .cons _ h => by rw [List.length_cons, List.length_cons, len h]
theorem mono (f : ∀ a b, P a b → P' a b) : ∀ {xs : List α} {ys : List β}, Al2 P xs ys → Al2 P' xs ys
  | _, _, .nil => .nil
  | _, _, .cons p h => .cons (f _ _ p) (mono f h)
theorem snoc {a : α} {b : β} (p : P a b) : ∀ {xs : List α} {ys : List β}, Al2 P xs ys → Al2 P (xs ++ [a]) (ys ++ [b])
  | _, _, .nil => .cons p .nil
  | _, _, .cons q h => .cons q (snoc p h)
theorem app : ∀ {xs : List α} {ys : List β} {us : List α} {vs : List β}, Al2 P xs ys → Al2 P us vs → Al2 P (xs ++ us) (ys ++ vs)
  | _, _, _, _, .nil, g => g
  | _, _, _, _, .cons q h, g => .cons q (app h g)
theorem nth : ∀ {xs : List α} {ys : List β} {i : Nat} {a : α}, Al2 P xs ys → xs[i]? = some a → ∃ b, ys[i]? = some b ∧ P a b
  | _, _, _, _, .nil, e => by simp at e
  | _, _, 0, _, .cons p _, e => by
    simp at e
    subst e
    exact ⟨_, rfl, p⟩
  | _, _, _ + 1, _, .cons _ h, e => by
    simp at e
    obtain ⟨b, e2, p⟩ := nth h e
    exact ⟨b, by simpa using e2, p⟩
theorem mem {xs : List α} {ys : List β} {a : α} (h : Al2 P xs ys) (m : a ∈ xs) : ∃ b, b ∈ ys ∧ P a b := by
  obtain ⟨i, hi, rfl⟩ := List.getElem_of_mem m
  obtain ⟨b, e, p⟩ := h.nth (List.getElem?_eq_getElem hi)
  exact ⟨b, List.mem_of_getElem? e, p⟩
end Al2
/-- a place in a list, with what stands beside it -/
theorem Al2.at {β : Type} {P : V → β → Prop} {xs : List V} {ys : List β} {i : Int} (h : Al2 P xs ys) (h0 : 0 ≤ i) (h1 : i < xs.length) : ∃ v b, atI xs i = some v ∧ ys[i.toNat]? = some b ∧ P v b := by
  obtain ⟨j, rfl⟩ : ∃ j : Nat, i = j := ⟨i.toNat, by omega⟩
  have hj : j < xs.length := by omega
  obtain ⟨b, e, p⟩ := h.nth (List.getElem?_eq_getElem hj)
  exact ⟨xs[j], b, atI_nat (List.getElem?_eq_getElem hj), e, p⟩
end R
namespace R
theorem not_b {b : Bool} (h : (!b) = true) : b = false := by simpa using h
theorem not_b' {b : Bool} (h : (!b) = false) : b = true := by simpa using h
end R
namespace R
open PySem PySem.Spec PyProof.Rows L2
section
variable {X : Cx}
/-- in, of data of any depth -/
def rInDU (K : PySem.W.Frag) (n : Bool) : R2 := fun x y H Q => ∃ d ds, Dp K H x d ∧ (Dp K H y (.list ds) ∧ SeqAt.shaped (.list ds) = true ∨ Dp K H y (.tuple ds) ∧ SeqAt.shaped (.tuple ds) = true) ∧ SeqAt.shaped d = true ∧ Q (.bl (n != ds.any fun z => PyData.eqv z d)) H
theorem lay_tuple {ds : List PyData} (h : SeqAt.shaped (.tuple ds) = true) : PyData.canLayAll0 ds = true := by
  have := SeqAt.canLay_of_shaped h
  simpa [PyData.canLay0] using this
theorem roomU5 {k : Nat} {A : Around} (r : Room k A) : A.units + 65 < cLine := by have := r.un; omega
theorem opU_inD {K : PySem.W.Frag} {k : Nat} (r : Room k X.A) (hK : X.K = K := by rfl) : OpR X (compareOp .In) (rInDU K false) := by
  subst hK
  intro pins s σ H x y v u Q I rx ry h
  obtain ⟨d, ds, hd, he, sd, q⟩ := h
  have e : (false != ds.any fun z => PyData.eqv z d) = ds.any fun z => PyData.eqv z d := by simp
  rw [e] at q
  rcases he with ⟨he, se⟩ | ⟨he, se⟩
  · exact op_inD (roomU5 r) pins s σ H x y v u Q I rx ry ⟨d, ds, hd, he, sd, se, q⟩
  · obtain ⟨as, r1⟩ := Dp.reads I d x v hd rx
    obtain ⟨bs, r2⟩ := Dp.reads I (.tuple ds) y u he ry
    exact SeqAt.in_tuple_reads r2 r1 (lay_tuple se) (SeqAt.canLay_of_shaped sd) (room_in_shaped sd (roomU5 r)) ⟨.bl _, H, I, rfl, q⟩
theorem opU_notinD {K : PySem.W.Frag} {k : Nat} (r : Room k X.A) (hK : X.K = K := by rfl) : OpR X (compareOp .NotIn) (rInDU K true) := by
  subst hK
  intro pins s σ H x y v u Q I rx ry h
  obtain ⟨d, ds, hd, he, sd, q⟩ := h
  have e : (true != ds.any fun z => PyData.eqv z d) = !ds.any fun z => PyData.eqv z d := by simp
  rw [e] at q
  rcases he with ⟨he, se⟩ | ⟨he, se⟩
  · exact op_notInD (roomU5 r) pins s σ H x y v u Q I rx ry ⟨d, ds, hd, he, sd, se, q⟩
  · obtain ⟨as, r1⟩ := Dp.reads I d x v hd rx
    obtain ⟨bs, r2⟩ := Dp.reads I (.tuple ds) y u he ry
    exact SeqAt.notIn_tuple_reads r2 r1 (lay_tuple se) (SeqAt.canLay_of_shaped sd) (room_in_shaped sd (roomU5 r)) ⟨.bl _, H, I, rfl, q⟩
/-- text * number -/
def rMulS : R2 := fun x y H Q => match x, y with
  | .str z, .int n => MulOk z n ∧ Q (.str (Txt.mul z n)) H
  | _, _ => False
theorem opU_mulS : OpR X (binaryOp .Mult) rMulS := by
  intro pins s σ H x y v u Q I rx ry h
  unfold rMulS at h
  split at h
  · obtain ⟨t, rfl⟩ := rx
    obtain ⟨t', rfl⟩ := ry
    rename_i z n
    exact SB.mul h.1 fun t' k => ⟨.str (Txt.mul z n), H, I.tok _, ⟨_, rfl⟩, h.2⟩
  · exact h.elim
/-- t + u, t[i:j] of tuples, of any kind -/
def rAddA (K : PySem.W.Frag) : R2 := fun x y H Q => ∃ a b xs ys, x = .ref a ∧ y = .ref b ∧ SqT K H a xs ∧ SqT K H b ys ∧ xs.length + ys.length ≤ sizeLine ∧ ∀ p H', SqT K H' p (xs ++ ys) → Same H H' → (Wf H → Wf H') → Q (.ref p) H'
theorem opA_add {K : PySem.W.Frag} (hK : X.K = K := by rfl) : OpR X (binaryOp .Add) (rAddA K) := hK ▸ imp_o op_catA fun x y H Q q => by
  obtain ⟨a, b, xs, ys, rfl, rfl, ha, hb, hz, q⟩ := q
  refine ⟨a, b, xs, ys, rfl, rfl, ha, hb, hz, fun e => ?_, fun _ e => ?_, fun _ _ p np => ?_⟩
  · subst e
    exact q b H hb (Same.refl _) id
  · subst e
    refine q a H ?_ (Same.refl _) id
    rw [List.append_nil]
    exact ha
  · exact q p _ (.inl (.inl upd_same)) (same_new np) fun w => w.new trivial np
def rSlAU (K : PySem.W.Frag) : V → Option Int → Option Int → Hp → VK → Prop := fun x lo hi H Q => ∃ a xs, x = .ref a ∧ SqT K H a xs ∧ ∀ p H', SqT K H' p (cutV xs lo hi) → Same H H' → (Wf H → Wf H') → Q (.ref p) H'
theorem cutV_whole {xs : List V} {lo hi : Option Int} (h : HT.sIx xs.length 0 lo = 0 ∧ HT.sIx xs.length xs.length hi = xs.length) : cutV xs lo hi = xs := by
  unfold cutV
  rw [h.1, h.2, List.drop_zero, Nat.sub_zero, List.take_of_length_le (Nat.le_refl _)]
theorem slA {K : PySem.W.Frag} (hK : X.K = K := by rfl) : SlR X (rSlAU K) := by
  subst hK
  intro pins s σ H x v vl vu lo hi sl Q I rx hs pl pu h
  obtain ⟨a, xs, rfl, hx, q⟩ := h
  refine sl_tupA pins s σ H _ v vl vu lo hi sl Q I rx hs pl pu ⟨a, xs, rfl, hx, fun e => ?_, fun _ p np => ?_⟩
  · exact q a H (by rw [cutV_whole e]; exact hx) (Same.refl _) id
  · exact q p _ (.inl (.inl upd_same)) (same_new np) fun w => w.new trivial np
theorem pe_revK {K : PySem.W.Frag} {e : Expr} {te : TE} {k : Nat} {p1 p2 p3 pos : Pos} (he : PE X e te) (hK : X.K = K := by rfl) : PE X (.Subscript e (.Slice none none (some (.UnaryOp .USub (.Constant (.int 1) k p1) p2)) p3) pos) (tRevL K te) := hK ▸ pe_revL he
end
end R
namespace R
open PySem PySem.Spec PyProof.Rows L2
theorem ty_same {K : PySem.W.Frag} {H H' : Hp} {x : V} {t : Value} (s : Same H H') (h : TyX K H x t) : TyX K H' x t := by
  cases h with
  | base h =>
    cases h with
    | non => exact .base .non
    | bl b => exact .base (.bl b)
    | int i => exact .base (.int i)
    | str z => exact .base (.str z)
    | flt z => exact .base (.flt z)
    | lst e => exact .base (.lst (s _ _ e))
    | frz e => exact .base (.frz (s _ _ e))
    | tup e => exact .base (.tup (s _ _ e))
    | dK e => exact .base (.dK (s _ _ e))
    | dT e => exact .base (.dT (s _ _ e))
    | ins e cl ha hn htk hm => exact .base (.ins (s _ _ e) cl ha hn htk hm)
  | byt b => exact .byt b
  | set e => exact .set (s _ _ e)
  | kList e c => exact .kList e c
  | kTuple e c => exact .kTuple e c
  | kDict e c => exact .kDict e c
  | fTuple e => exact .fTuple (s _ _ e)
  | fDict e => exact .fDict (s _ _ e)
theorem isi_same {K : PySem.W.Frag} {H H' : Hp} {x : V} {n : String} {b : Bool} (s : Same H H') (h : IsiV K H x n b) : IsiV K H' x n b := by
  obtain ⟨t, h1, h2⟩ := h
  exact ⟨t, ty_same s h1, h2⟩
theorem kn_same {K : PySem.W.Frag} {H H' : Hp} {v : V} (s : Same H H') (h : Kn K H v) : Kn K H' v := by
  cases v with
  | non => trivial
  | bl _ => trivial
  | int _ => trivial
  | str _ => trivial
  | ref p =>
    rcases h with h | h | h
    · exact .inl (ty_same s h)
    · exact .inr (.inl (ty_same s h))
    · exact .inr (.inr (ty_same s h))
  | byt _ => exact h.elim
  | flt _ => exact h.elim
  | ty _ => exact h.elim
theorem cutS_len {z : Str} {lo hi : Option Int} : (cutS z lo hi).length ≤ z.length := by
  unfold cutS
  have e : z.length = z.cps.toList.length := (Array.length_toList).symm
  rw [e]
  show (Array.size _) ≤ _
  simp
  omega
/-- the signs of some words, one more for each -/
def mu (ws : List Str) : Nat := (ws.map fun w => w.length + 1).sum
theorem mu_nil : mu [] = 0 := rfl
theorem mu_cons (w : Str) (ws : List Str) : mu (w :: ws) = w.length + 1 + mu ws := rfl
theorem mu_app (ws us : List Str) : mu (ws ++ us) = mu ws + mu us := by
  induction ws with
  | nil => simp [mu_nil]
  | cons w r ih =>
    rw [List.cons_append, mu_cons, mu_cons, ih]
    omega
theorem mu_take (ws : List Str) (n : Nat) : mu (ws.take n) ≤ mu ws := by
  conv => rhs; rw [← List.take_append_drop n ws, mu_app]
  omega
theorem mu_drop (ws : List Str) (n : Nat) : mu (ws.drop n) ≤ mu ws := by
  conv => rhs; rw [← List.take_append_drop n ws, mu_app]
  omega
theorem mu_rev (ws : List Str) : mu ws.reverse = mu ws := by
  induction ws with
  | nil => rfl
  | cons w r ih =>
    rw [List.reverse_cons, mu_app, ih, mu_cons, mu_cons, mu_nil]
    omega
theorem mu_len (ws : List Str) : ws.length ≤ mu ws := by
  induction ws with
  | nil => exact Nat.zero_le _
  | cons w r ih =>
    rw [List.length_cons, mu_cons]
    omega
theorem mu_mem {ws : List Str} {w : Str} (h : w ∈ ws) : w.length + 1 ≤ mu ws := by
  induction ws with
  | nil => cases h
  | cons x r ih =>
    rw [mu_cons]
    rcases List.mem_cons.mp h with rfl | h
    · omega
    · have := ih h
      omega
theorem cut_strs (ws : List Str) (lo hi : Option Int) : ∃ us : List Str, cutV (ws.map V.str) lo hi = us.map V.str ∧ mu us ≤ mu ws ∧ ∀ w ∈ us, w ∈ ws := by
  refine ⟨(ws.drop (HT.sIx (ws.map V.str).length 0 lo)).take (HT.sIx (ws.map V.str).length (ws.map V.str).length hi - HT.sIx (ws.map V.str).length 0 lo), ?_, ?_, ?_⟩
  · unfold cutV
    rw [← List.map_drop, ← List.map_take]
  · exact Nat.le_trans (mu_take _ _) (mu_drop _ _)
  · intro w hw
    exact List.mem_of_mem_drop (List.mem_of_mem_take hw)
theorem mu_sum (ws : List Str) : mu ws = (ws.map (·.length)).sum + ws.length := by
  induction ws with
  | nil => rfl
  | cons w r ih =>
    rw [mu_cons, ih, List.map_cons, List.sum_cons, List.length_cons]
    omega
theorem Dr.same' {a : Addr} {H H' : Hp} (s : Same H H') (t : St2 H a) (w : Wf H') : Dr a H H' := by
  obtain ⟨p, q, e, h⟩ := t
  exact ⟨fun b o _ e => s b o e, ⟨p, q, s _ _ e, h⟩, w⟩
end R
namespace R
open PySem PySem.Spec PyProof.Rows L2
theorem opT_mul {X : Cx} {K : PySem.W.Frag} (hK : X.K = K := by rfl) : OpR X (binaryOp .Mult) (rRepT K) := hK ▸ op_repT
/-- the heap without what stands at F and at a -/
def G2 (F a : Addr) (H : Hp) : Hp := hid F (hid a H)
theorem G2.le {F a : Addr} {H : Hp} : Same (G2 F a H) H := fun b o e => by
  unfold G2 hid at e
  split at e
  · cases e
  · split at e
    · cases e
    · exact e
theorem G2.at {F a b : Addr} {H : Hp} {o : HO} (n : b ≠ F) (m : b ≠ a) (e : H b = some o) : G2 F a H b = some o := by
  unfold G2 hid
  rw [if_neg n, if_neg m]
  exact e
theorem G2.of {F a b : Addr} {H : Hp} {o : HO} (e : G2 F a H b = some o) : b ≠ F ∧ b ≠ a ∧ H b = some o := by
  unfold G2 hid at e
  split at e
  · cases e
  · rename_i n
    split at e
    · cases e
    · rename_i m
      exact ⟨n, m, e⟩
theorem G2.same {F a : Addr} {H H' : Hp} (s : Same H H') : Same (G2 F a H) (G2 F a H') := fun b o e => by
  obtain ⟨n, m, e⟩ := G2.of e
  exact G2.at n m (s _ _ e)
theorem G2.dr {F a : Addr} {H H' : Hp} (d : Dr a H H') : Same (G2 F a H) (G2 F a H') := fun b o e => by
  obtain ⟨n, m, e⟩ := G2.of e
  exact G2.at n m (d.kp _ _ m e)
theorem G2.put {F a : Addr} {H : Hp} {o : HO} : Same (G2 F a H) (G2 F a (upd H F o)) := fun b u e => by
  obtain ⟨n, m, e⟩ := G2.of e
  exact G2.at n m (by rw [upd_ne n]; exact e)
theorem G2.sqt {K : PySem.W.Frag} {F a : Addr} {H : Hp} {xs : List V} (hF : H F = some (.lst xs)) (s : St2 H a) : ∀ p ys, SqT K H p ys → SqT K (G2 F a H) p ys := fun p ys h => by
  obtain ⟨u, w, ha, _⟩ := s
  rcases h with (h | ⟨z, h⟩) | h
  · exact .inl (.inl (G2.at (ne_of h hF (fun z => by cases z)) (ne_of h ha (fun z => by cases z)) h))
  · exact .inl (.inr ⟨z, G2.at (ne_of h hF (fun z => by cases z)) (ne_of h ha (fun z => by cases z)) h⟩)
  · exact .inr h
theorem dpa_app {K : PySem.W.Frag} {H : Hp} : ∀ {xs : List V} {ds : List PyData} {ys : List V} {es : List PyData}, DpAll K H xs ds → DpAll K H ys es → DpAll K H (xs ++ ys) (ds ++ es)
  | _, _, _, _, .nil, g => g
  | _, _, _, _, .cons h r, g => .cons h (dpa_app r g)
theorem dpa_take {K : PySem.W.Frag} {H : Hp} : ∀ (n : Nat) {xs : List V} {ds : List PyData}, DpAll K H xs ds → DpAll K H (xs.take n) (ds.take n)
  | 0, _, _, _ => by
    rw [List.take_zero, List.take_zero]
    exact .nil
  | _ + 1, _, _, .nil => .nil
  | n + 1, _, _, .cons h r => .cons h (dpa_take n r)
theorem cut_ints (ws : List Int) (lo hi : Option Int) : ∃ us : List Int, cutV (ws.map V.int) lo hi = us.map V.int ∧ us.length ≤ ws.length := by
  refine ⟨(ws.drop (HT.sIx (ws.map V.int).length 0 lo)).take (HT.sIx (ws.map V.int).length (ws.map V.int).length hi - HT.sIx (ws.map V.int).length 0 lo), ?_, ?_⟩
  · unfold cutV
    rw [← List.map_drop, ← List.map_take]
  · rw [List.length_take, List.length_drop]
    omega
theorem cutV_to {xs : List V} {j : Int} (h : 0 ≤ j) : cutV xs none (some j) = xs.take j.toNat := by
  obtain ⟨n, rfl⟩ : ∃ n : Nat, j = n := ⟨j.toNat, by omega⟩
  unfold cutV
  rw [HT.sIx_nat, HT.sIx_none, List.drop_zero, Nat.sub_zero, Int.toNat_natCast]
  by_cases h : n ≤ xs.length
  · rw [Nat.min_eq_left h]
  · rw [Nat.min_eq_right (by omega), List.take_of_length_le (Nat.le_refl _), List.take_of_length_le (by omega)]
end R
namespace R
open PySem PySem.Spec PyProof.Rows L2
theorem roomU1 {k : Nat} {A : Around} (r : Room k A) : A.units + 1 < cLine := by have := r.un; omega
theorem mono_pc {X : Cx} {op : CmpOp} {a b : Expr} {t : TE} (h : PC X op a b t) : PC X op a b (fun σ H Q => ∃ Q0 : VK, (∀ v H', Q0 v H' → Q v H') ∧ t σ H Q0) := ⟨fun pins s σ H Q I q => by
  obtain ⟨Q0, w, z⟩ := q
  exact thn (h.run pins s σ H Q0 I z) fun v s1 x => thn x fun u s2 y => thn y fun r s3 ⟨v, H1, I1, r, q1⟩ => ⟨v, H1, I1, r, w v H1 q1⟩⟩
theorem pt_pcU {X : Cx} {op : CmpOp} {a b : Expr} {t : TE} {pos : Pos} (h : PC X op a b t) (h1 : behindInMarks op b = false) : PT X (.Compare a [op] [b] pos) (cTest t) :=
  imp_t (pt_cmp (mono_pc h) h1) fun σ H Q q => ⟨_, fun v H' z => testM v H' z, q⟩
/-- whole numbers kept by whole numbers -/
def kvI (es : List (Int × Int)) : List (Key × V) := es.map fun p => (Sum.inl p.1, V.int p.2)
def valI (es : List (Int × Int)) (k : Int) : Option Int := (es.find? fun p => decide (p.1 = k)).map (·.2)
def putI (es : List (Int × Int)) (k v : Int) : List (Int × Int) := if (es.any fun p => decide (p.1 = k)) = true then es.map (fun p => if p.1 = k then (p.1, v) else p) else es ++ [(k, v)]
def dropI (es : List (Int × Int)) (k : Int) : List (Int × Int) := es.filter fun p => decide (p.1 ≠ k)
theorem inl_dec (a k : Int) : decide ((Sum.inl a : Key) = Sum.inl k) = decide (a = k) := by
  by_cases h : a = k
  · subst h
    rw [decide_eq_true rfl, decide_eq_true rfl]
  · rw [decide_eq_false h, decide_eq_false (fun z => h (Sum.inl.inj z))]
theorem kvI_val (es : List (Int × Int)) (k : Int) : valV (kvI es) (Sum.inl k) = (valI es k).map V.int := by
  unfold valV kvI valI
  rw [List.find?_map]
  have : ((fun kv : Key × V => decide (kv.1 = Sum.inl k)) ∘ fun p : Int × Int => ((Sum.inl p.1 : Key), V.int p.2)) = fun p => decide (p.1 = k) := by
    funext p
    exact inl_dec _ _
  rw [this]
  cases es.find? fun p => decide (p.1 = k) <;> rfl
theorem kvI_put (es : List (Int × Int)) (k v : Int) : putK (kvI es) (Sum.inl k) (.int v) = kvI (putI es k v) := by
  unfold putK putI
  have e1 : ((kvI es).any fun kv => decide (kv.1 = Sum.inl k)) = es.any fun p => decide (p.1 = k) := by
    unfold kvI
    rw [List.any_map]
    congr 1
    funext p
    exact inl_dec _ _
  rw [e1]
  split
  · unfold kvI
    rw [List.map_map, List.map_map]
    apply List.map_congr_left
    intro p _
    show (if (Sum.inl p.1 : Key) = Sum.inl k then _ else _) = _
    by_cases h : p.1 = k
    · rw [if_pos (by rw [h])]
      show _ = ((fun p : Int × Int => ((Sum.inl p.1 : Key), V.int p.2)) (if p.1 = k then (p.1, v) else p))
      rw [if_pos h]
    · rw [if_neg (fun z => h (Sum.inl.inj z))]
      show _ = ((fun p : Int × Int => ((Sum.inl p.1 : Key), V.int p.2)) (if p.1 = k then (p.1, v) else p))
      rw [if_neg h]
  · unfold kvI
    rw [List.map_append]
    rfl
theorem kvI_drop (es : List (Int × Int)) (k : Int) : dropK (kvI es) (Sum.inl k) = kvI (dropI es k) := by
  unfold dropK dropI kvI
  rw [List.filter_map]
  congr 1
  apply List.filter_congr
  intro p _
  have e := inl_dec p.1 k
  simp only [Function.comp, ne_eq, decide_not]
  rw [e]
theorem kvI_len (es : List (Int × Int)) : (kvI es).length = es.length := List.length_map ..
end R
namespace R
open PySem PySem.Spec PyProof.Rows L2
/-- all stays but what is at x -/
def KX (x : Addr) (H H' : Hp) : Prop := ∀ b o, b ≠ x → H b = some o → H' b = some o
theorem kx_new {x p : Addr} {o : HO} {H H' : Hp} (n : H' p = none) (k : KX x H H') : KX x H (upd H' p o) := fun b u h e => same_new n _ _ (k b u h e)
theorem kx_put {x : Addr} {o : HO} {H H' : Hp} (k : KX x H H') : KX x H (upd H' x o) := fun b u h e => by
  rw [upd_ne h]
  exact k b u h e
theorem bQ.ins {H : Hp} {Q : VK} {v : V} (w : Wf H) (q : Q v H) : bQ H Q v H := bQ.same w (Same.refl _) q
end R
namespace W
open PySem PySem.Spec PyProof.Rows L2 R
def topS (i : Nat) : Stmt := PySem.Challenge.pw_rowlent_k05_what_is_a_rule.main.body.getD i (.Pass ⟨0, 0, 0, 0⟩)

structure Ad where
  LentError : Addr
  NoWork : Addr
  IsIn : Addr
  NoRule : Addr
  NoTry : Addr
  NoMoment : Addr
  NoLoan : Addr
  Late : Addr
  NoWhy : Addr
  NoText : Addr
  NoRow : Addr
  Card : Addr
  Work : Addr
  Loose : Addr
  Grouped : Addr
  Row : Addr

structure Txt (K : PySem.W.Frag) (mg : Str → Option Value) (c : Ad) : Prop where
  m_all : mg "all" = none
  m_isinstance : mg "isinstance" = none
  m_str : mg "str" = none
  m_len : mg "len" = none
  m_int : mg "int" = none
  m_bool : mg "bool" = none
  m_tuple : mg "tuple" = none
  m_min : mg "min" = none
  m_dict : mg "dict" = none
  m_list : mg "list" = none
  m_sorted : mg "sorted" = none
  m_max : mg "max" = none
  m_range : mg "range" = none
  m_ValueError : mg "ValueError" = none
  g_MOST_LETTERS : GlV mg "MOST_LETTERS" (.int 8)
  g_LETTERS : GlV mg "LETTERS" (.str "abcdefghijklmnopqrstuvwxyz")
  g_MOST_MOMENT : GlV mg "MOST_MOMENT" (.int 1000000000000)
  g_MOST_PAUSES : GlV mg "MOST_PAUSES" (.int 10)
  g_MOST_SPAN : GlV mg "MOST_SPAN" (.int 1000000)
  t_ORDERS : ∃ a, GlV mg "ORDERS" (.ref a) ∧ ∀ H, SqT K H a [.str "put", .str "turns"]
  g_MOST_OUT : GlV mg "MOST_OUT" (.int 200)
  g_MOST_TRIES : GlV mg "MOST_TRIES" (.int 20)
  g_MOST_PLACE : GlV mg "MOST_PLACE" (.int 1000000000)
  x_LentError : Exc K mg "LentError" c.LentError
  x_NoWork : Exc K mg "NoWork" c.NoWork
  x_IsIn : Exc K mg "IsIn" c.IsIn
  x_NoRule : Exc K mg "NoRule" c.NoRule
  x_NoTry : Exc K mg "NoTry" c.NoTry
  x_NoMoment : Exc K mg "NoMoment" c.NoMoment
  x_NoLoan : Exc K mg "NoLoan" c.NoLoan
  x_Late : Exc K mg "Late" c.Late
  x_NoWhy : Exc K mg "NoWhy" c.NoWhy
  x_NoText : Exc K mg "NoText" c.NoText
  x_NoRow : Exc K mg "NoRow" c.NoRow
  u_NoRule_LentError : PySem.W.subIn K (.ref c.NoRule) (.ref c.LentError) = some true
  u_NoRule_NoMoment : PySem.W.subIn K (.ref c.NoRule) (.ref c.NoMoment) = some false
  u_NoRule_NoRow : PySem.W.subIn K (.ref c.NoRule) (.ref c.NoRow) = some false
  u_NoRule_NoText : PySem.W.subIn K (.ref c.NoRule) (.ref c.NoText) = some false
  u_NoRule_NoTry : PySem.W.subIn K (.ref c.NoRule) (.ref c.NoTry) = some false
  u_NoRule_NoRule : PySem.W.subIn K (.ref c.NoRule) (.ref c.NoRule) = some true
  u_NoRule_NoWork : PySem.W.subIn K (.ref c.NoRule) (.ref c.NoWork) = some false
  o_Card : OwnC K mg "Card" c.Card
  o_Work : OwnC K mg "Work" c.Work
  o_Loose : OwnC K mg "Loose" c.Loose
  o_Grouped : OwnC K mg "Grouped" c.Grouped
  o_Row : OwnC K mg "Row" c.Row
  i_Card : MkAt K mg "Card" c.Card "Card.__init__" (inClass (topS 34) 0) ["self", "work", "number", "ready", "place", "tries", "last", "since"]
  m_Card_moved : MtAt K c.Card "moved" "Card.moved" (inClass (topS 34) 1) ["self", "place", "ready"]
  m_Card_tried : MtAt K c.Card "tried" "Card.tried" (inClass (topS 34) 3) ["self", "tries"]
  m_Card_ended : MtAt K c.Card "ended" "Card.ended" (inClass (topS 34) 4) ["self", "place", "since"]
  n_Card_work : NoAttr K c.Card "work"
  n_Card_number : NoAttr K c.Card "number"
  n_Card_ready : NoAttr K c.Card "ready"
  n_Card_place : NoAttr K c.Card "place"
  n_Card_tries : NoAttr K c.Card "tries"
  n_Card_last : NoAttr K c.Card "last"
  n_Card_since : NoAttr K c.Card "since"
  i_Work : MkAt K mg "Work" c.Work "Work.__init__" (inClass (topS 46) 0) ["self", "name", "house", "ready", "group", "place"]
  m_Work_told : MtAt K c.Work "told" "Work.told" (inClass (topS 46) 1) ["self"]
  n_Work_name : NoAttr K c.Work "name"
  n_Work_house : NoAttr K c.Work "house"
  n_Work_ready : NoAttr K c.Work "ready"
  n_Work_group : NoAttr K c.Work "group"
  n_Work_place : NoAttr K c.Work "place"
  i_Loose : MkAt K mg "Loose" c.Loose "Work.__init__" (inClass (topS 46) 0) ["self", "name", "house", "ready", "group", "place"]
  m_Loose_told : MtAt K c.Loose "told" "Work.told" (inClass (topS 46) 1) ["self"]
  n_Loose_name : NoAttr K c.Loose "name"
  n_Loose_house : NoAttr K c.Loose "house"
  n_Loose_ready : NoAttr K c.Loose "ready"
  n_Loose_group : NoAttr K c.Loose "group"
  n_Loose_place : NoAttr K c.Loose "place"
  i_Grouped : MkAt K mg "Grouped" c.Grouped "Work.__init__" (inClass (topS 46) 0) ["self", "name", "house", "ready", "group", "place"]
  m_Grouped_told : MtAt K c.Grouped "told" "Work.told" (inClass (topS 46) 1) ["self"]
  n_Grouped_name : NoAttr K c.Grouped "name"
  n_Grouped_house : NoAttr K c.Grouped "house"
  n_Grouped_ready : NoAttr K c.Grouped "ready"
  n_Grouped_group : NoAttr K c.Grouped "group"
  n_Grouped_place : NoAttr K c.Grouped "place"
  i_Row : MkAt K mg "Row" c.Row "Row.__init__" (inClass (topS 52) 0) ["self", "rule"]
  m_Row_twin : MtAt K c.Row "twin" "Row.twin" (inClass (topS 52) 1) ["self"]
  m_Row_become : MtAt K c.Row "become" "Row.become" (inClass (topS 52) 2) ["self", "row"]
  m_Row_ahead : MtAt K c.Row "ahead" "Row.ahead" (inClass (topS 52) 3) ["self", "now"]
  m_Row_by_end : MtAt K c.Row "by_end" "Row.by_end" (inClass (topS 52) 4) ["self"]
  m_Row_pass_to : MtAt K c.Row "pass_to" "Row.pass_to" (inClass (topS 52) 5) ["self", "now"]
  m_Row_run_out : MtAt K c.Row "run_out" "Row.run_out" (inClass (topS 52) 6) ["self", "loan"]
  m_Row_is_out : MtAt K c.Row "is_out" "Row.is_out" (inClass (topS 52) 7) ["self", "loan"]
  m_Row_end_try : MtAt K c.Row "end_try" "Row.end_try" (inClass (topS 52) 8) ["self", "loan", "at", "how", "why"]
  m_Row_end_work : MtAt K c.Row "end_work" "Row.end_work" (inClass (topS 52) 9) ["self", "card", "place"]
  m_Row_put : MtAt K c.Row "put" "Row.put" (inClass (topS 52) 10) ["self", "now", "told"]
  m_Row_loan_of : MtAt K c.Row "loan_of" "Row.loan_of" (inClass (topS 52) 14) ["self", "number"]
  m_Row_done : MtAt K c.Row "done" "Row.done" (inClass (topS 52) 16) ["self", "now", "loan"]
  m_Row_back : MtAt K c.Row "back" "Row.back" (inClass (topS 52) 17) ["self", "now", "loan", "why"]
  m_Row_sorted_cards : MtAt K c.Row "sorted_cards" "Row.sorted_cards" (inClass (topS 52) 20) ["self"]
  m_Row_in_place : MtAt K c.Row "in_place" "Row.in_place" (inClass (topS 52) 21) ["self", "place"]
  m_Row_out : MtAt K c.Row "out" "Row.out" (inClass (topS 52) 26) ["self"]
  m_Row_ended : MtAt K c.Row "ended" "Row.ended" (inClass (topS 52) 27) ["self", "place"]
  m_Row_aside : MtAt K c.Row "aside" "Row.aside" (inClass (topS 52) 28) ["self"]
  m_Row_counts : MtAt K c.Row "counts" "Row.counts" (inClass (topS 52) 30) ["self"]
  m_Row_card_of : MtAt K c.Row "card_of" "Row.card_of" (inClass (topS 52) 31) ["self", "name"]
  m_Row_where : MtAt K c.Row "where" "Row.where" (inClass (topS 52) 33) ["self", "name"]
  m_Row_book : MtAt K c.Row "book" "Row.book" (inClass (topS 52) 44) ["self"]
  n_Row_rule : NoAttr K c.Row "rule"
  n_Row_moment : NoAttr K c.Row "moment"
  n_Row_cards : NoAttr K c.Row "cards"
  n_Row_loans : NoAttr K c.Row "loans"
  n_Row_group_names : NoAttr K c.Row "group_names"
  n_Row_house_names : NoAttr K c.Row "house_names"
  n_Row_turned : NoAttr K c.Row "turned"
  n_Row_ends : NoAttr K c.Row "ends"
  n_Row_written : NoAttr K c.Row "written"
  f_is_name : FnAt K mg "is_name" "is_name" (topS 17) ["thing"]
  f_is_whole : FnAt K mg "is_whole" "is_whole" (topS 18) ["thing", "low", "high"]
  f_is_count : FnAt K mg "is_count" "is_count" (topS 19) ["thing"]
  f_is_moment : FnAt K mg "is_moment" "is_moment" (topS 20) ["thing"]
  f_joined : FnAt K mg "joined" "joined" (topS 21) ["words", "between"]
  f_are_pauses : FnAt K mg "are_pauses" "are_pauses" (topS 28) ["thing"]
  f_is_rule : FnAt K mg "is_rule" "is_rule" (topS 29) ["thing"]
  f_sure_rule : FnAt K mg "sure_rule" "sure_rule" (topS 30) ["rule"]
  f_rule_text : FnAt K mg "rule_text" "rule_text" (topS 31) ["rule"]
  f_pause_behind : FnAt K mg "pause_behind" "pause_behind" (topS 32) ["rule", "k"]
  f_words_line : FnAt K mg "words_line" "words_line" (topS 36) ["words"]
  f_stands : FnAt K mg "stands" "stands" (topS 37) ["card"]
  f_group_word : FnAt K mg "group_word" "group_word" (topS 38) ["group"]
  f_row_line : FnAt K mg "row_line" "row_line" (topS 39) ["rule"]
  f_put_line : FnAt K mg "put_line" "put_line" (topS 40) ["now", "work"]
  f_done_line : FnAt K mg "done_line" "done_line" (topS 41) ["now", "loan", "how"]
  f_back_line : FnAt K mg "back_line" "back_line" (topS 42) ["now", "loan", "why", "card"]
  f_lapse_line : FnAt K mg "lapse_line" "lapse_line" (topS 43) ["loan", "card"]
  f_is_work : FnAt K mg "is_work" "is_work" (topS 49) ["told"]
  f_work_of : FnAt K mg "work_of" "work_of" (topS 50) ["told"]
  f__law_cell_at : FnAt K mg "_law_cell_at" "_law_cell_at" (topS 54) ["_law_script", "_law_k"]
  f__law_state : FnAt K mg "_law_state" "_law_state" (topS 55) ["_law_cell", "_law_k"]
  f__law_mixed : FnAt K mg "_law_mixed" "_law_mixed" (topS 56) ["_law_number"]
  f__law_digit : FnAt K mg "_law_digit" "_law_digit" (topS 57) ["_law_state_here", "_law_base"]
  f__law_rule : FnAt K mg "_law_rule" "_law_rule" (topS 58) ["_law_state_here"]
  f__law_no_number : FnAt K mg "_law_no_number" "_law_no_number" (topS 59) ["_law_state_here", "_law_low", "_law_high"]
  f__law_no_pauses : FnAt K mg "_law_no_pauses" "_law_no_pauses" (topS 60) ["_law_state_here", "_law_pauses"]
  f__law_spoilt : FnAt K mg "_law_spoilt" "_law_spoilt" (topS 61) ["_law_state_here", "_law_rule_here"]
  f__law_refused : FnAt K mg "_law_refused" "_law_refused" (topS 62) ["_law_way", "_law_rule_here", "_law_k"]

def fs_Card (v0 v1 v2 v3 v4 v5 v6 : V) : List (Str × V) := [(("work" : Str), v0), (("number" : Str), v1), (("ready" : Str), v2), (("place" : Str), v3), (("tries" : Str), v4), (("last" : Str), v5), (("since" : Str), v6)]
def fs_Work (v0 v1 v2 v3 v4 : V) : List (Str × V) := [(("name" : Str), v0), (("house" : Str), v1), (("ready" : Str), v2), (("group" : Str), v3), (("place" : Str), v4)]
def cs_Card (c : Ad) (C : Addr) : Prop := C = c.Card
theorem okc_Card {K : PySem.W.Frag} {mg : Str → Option Value} {c : Ad} (T : Txt K mg c) : ∀ C, cs_Card c C → Cls K C := fun C h => by
  have e : C = c.Card := h
  subst e
  exact T.o_Card.cl
def cs_Loose (c : Ad) (C : Addr) : Prop := C = c.Loose
theorem okc_Loose {K : PySem.W.Frag} {mg : Str → Option Value} {c : Ad} (T : Txt K mg c) : ∀ C, cs_Loose c C → Cls K C := fun C h => by
  have e : C = c.Loose := h
  subst e
  exact T.o_Loose.cl
def cs_Grouped (c : Ad) (C : Addr) : Prop := C = c.Grouped
theorem okc_Grouped {K : PySem.W.Frag} {mg : Str → Option Value} {c : Ad} (T : Txt K mg c) : ∀ C, cs_Grouped c C → Cls K C := fun C h => by
  have e : C = c.Grouped := h
  subst e
  exact T.o_Grouped.cl
def cs_Row (c : Ad) (C : Addr) : Prop := C = c.Row
theorem okc_Row {K : PySem.W.Frag} {mg : Str → Option Value} {c : Ad} (T : Txt K mg c) : ∀ C, cs_Row c C → Cls K C := fun C h => by
  have e : C = c.Row := h
  subst e
  exact T.o_Row.cl

abbrev lets : List Nat := ("abcdefghijklmnopqrstuvwxyz" : Str).cps.toList
def isNameB : V → Bool
  | .str z => decide (1 ≤ (z.length : Int)) && decide ((z.length : Int) ≤ 8) && z.cps.toList.all fun c => decide (c ∈ lets)
  | _ => false
def isWholeB : V → Int → Int → Bool
  | .int n, a, b => decide (a ≤ n) && decide (n ≤ b)
  | _, _, _ => false
def Short (v : V) : Prop := ∀ z, v = .str z → z.length ≤ 1000000 ∧ sOk z

abbrev s_is_name : Stmt := topS 17
abbrev N_is_name : List Str := ["thing", "sign"]
theorem sc_is_name : FnScope N_is_name ["thing"] (defScope s_is_name) := ⟨rfl, rfl, rfl, by decide +kernel, rfl, by decide +kernel, by decide +kernel⟩
def sp_is_name (K : PySem.W.Frag) (c : Ad) : Sp := fun vs H Q E => arg1 (fun v => Kn K H v ∧ Short v ∧ Wf H ∧ Q (.bl (isNameB v)) H) vs
theorem ok_is_name {P : Program} {w : World} {K : PySem.W.Frag} {mg : Str → Option Value} {base : Heap} {c : Ad} (T : Txt K mg c) : Ok P w K mg base 1 "is_name" ["thing"] (sp_is_name K c) := by
  refine okF T.f_is_name sc_is_name (fun vs H Q E h => ?_) (fun f cdv A outer sh H vs Q E hr h => ?_)
  · obtain ⟨v, rfl, h⟩ := arg1.ex h
    rfl
  · obtain ⟨v, rfl, h⟩ := arg1.ex h
    have tk : Takes (cxOf (L2.CX P w) P w K mg base N_is_name "is_name" (defScope s_is_name) f cdv A outer sh H (bE H E)) (fun cls d _ H' => bE H E cls d H') := takes_of rfl rfl rfl rfl
    refine ⟨_, pss_cons (ps_if (PW.pt (pw_or (pt_not (pt_truthU (K := K) (pe_callB (callU_isi (K := K)) (by rfl) T.m_isinstance (by decide +kernel) (pa_cons (lv 0) (pa_cons (pe_ty "str" T.m_str) pa_nil))) (by intro _; rfl))) (pw_or1 (pt_not (pt_chainU opU_le opU_le pe_int (pe_callB (callU_len (K := K)) (by rfl) T.m_len (by decide +kernel) (pa_cons (lv 0) pa_nil)) (pe_g T.g_MOST_LETTERS))))))
      (pss_one (ps_ret pe_bl)) pss_nil)
      (pss_one (ps_ret (pe_callB (callU_all (K := K) rfl) (by rfl) T.m_all (by decide +kernel) (pa_cons (pe_lc (own := [("sign", 1)]) (g := gName 1) rfl sc_is_name.nd (pi_str (lv 0)) (blkOk_by (own := [("sign", 1)]) (N := N_is_name) (sc := defScope s_is_name) (by decide +kernel)) (fun _ _ _ _ _ => pg_name (i := 1) sc_is_name.nd rfl (.inl rfl)) (fun _ _ _ _ _ => pts_nil) (fun _ _ _ _ _ => pe_cmpR (opU_in (K := K)) (lv 1) (pe_g T.g_LETTERS) (by rfl))) pa_nil)))), ?_⟩
    obtain ⟨hk, hz, wf, k⟩ := h
    refine ⟨_, isk_str hk, ?_⟩
    cases v with
    | str z =>
      refine ⟨line_of (Nat.le_trans ((hz z rfl).1) (by decide)), ?_⟩
      refine iteC (p := 1 ≤ (z.length : Int)) (fun h1 => ?_) (fun h1 => ?_)
      · refine iteB (fun h2' => ?_) (fun h2' => ?_)
        · have h2 := nd_t h2'
          refine bQ.same wf (Same.refl _) ?_
          have e2 : isNameB (.str z) = false := by
            show (decide (1 ≤ (z.length : Int)) && decide ((z.length : Int) ≤ 8) && _) = _
            rw [decide_eq_false h2, Bool.and_false, Bool.false_and]
          rw [← e2]
          exact k
        · have h2 := nd_f h2'
          refine ⟨z, rfl, fun D nD => ?_⟩
          refine lc_map (walk_str (z := z)) (fun i x => ∃ c, z.cps[i]? = some c ∧ x = .str ⟨#[c]⟩) (fun i H x H' h => h) (fun i => .bl (decide (z.cps.toList.getD i 0 ∈ lets))) (line_lt (Nat.lt_of_le_of_lt ((hz z rfl).1) (by decide))) (fun _ => trivial) (fun i x acc C hi hx hC => ?_) ?_
          · obtain ⟨c, hc, rfl⟩ := hx
            have e : z.cps.toList.getD i 0 = c := by simp [hc]
            rw [e] at hC
            refine ⟨rfl, c, rfl, ?_⟩
            simpa using hC
          · refine ⟨(List.range z.cps.size).map fun i => decide (z.cps.toList.getD i 0 ∈ lets), .inl (.inl ?_), ?_⟩
            · rw [upd_same, List.map_map]
              rfl
            · refine bQ.same wf (same_new nD) ?_
              have e : ((List.range z.cps.size).map fun i => decide (z.cps.toList.getD i 0 ∈ lets)) = z.cps.toList.map fun c => decide (c ∈ lets) := by
                rw [← R.range_getD z.cps.toList 0 fun c => decide (c ∈ lets)]
                rfl
              rw [e]
              have e2 : isNameB (.str z) = (z.cps.toList.map fun c => decide (c ∈ lets)).all id := by
                show (decide (1 ≤ (z.length : Int)) && decide ((z.length : Int) ≤ 8) && _) = _
                rw [decide_eq_true h1, decide_eq_true h2, List.all_map]
                rfl
              rw [e2] at k
              exact k
      · refine bQ.same wf (Same.refl _) ?_
        have e2 : isNameB (.str z) = false := by
          show (decide (1 ≤ (z.length : Int)) && decide ((z.length : Int) ≤ 8) && _) = _
          rw [decide_eq_false h1, Bool.false_and, Bool.false_and]
        rw [← e2]
        exact k
    | non => exact bQ.same wf (Same.refl _) k
    | bl b => exact bQ.same wf (Same.refl _) k
    | int n => exact bQ.same wf (Same.refl _) k
    | ref p => exact bQ.same wf (Same.refl _) k
    | byt b => exact hk.elim
    | flt b => exact hk.elim
    | ty b => exact hk.elim

abbrev s_is_whole : Stmt := topS 18
abbrev N_is_whole : List Str := ["thing", "low", "high"]
theorem sc_is_whole : FnScope N_is_whole ["thing", "low", "high"] (defScope s_is_whole) := ⟨rfl, rfl, rfl, by decide +kernel, rfl, by decide +kernel, by decide +kernel⟩
def sp_is_whole (K : PySem.W.Frag) (c : Ad) : Sp := fun vs H Q E => arg3 (fun v lo hi => ∃ a b, lo = .int a ∧ hi = .int b ∧ Kn K H v ∧ Wf H ∧ Q (.bl (isWholeB v a b)) H) vs
theorem ok_is_whole {P : Program} {w : World} {K : PySem.W.Frag} {mg : Str → Option Value} {base : Heap} {c : Ad} (T : Txt K mg c) : Ok P w K mg base 1 "is_whole" ["thing", "low", "high"] (sp_is_whole K c) := by
  refine okF T.f_is_whole sc_is_whole (fun vs H Q E h => ?_) (fun f cdv A outer sh H vs Q E hr h => ?_)
  · obtain ⟨v, lo, hi, rfl, h⟩ := arg3.ex h
    rfl
  · obtain ⟨v, lo, hi, rfl, h⟩ := arg3.ex h
    have tk : Takes (cxOf (L2.CX P w) P w K mg base N_is_whole "is_whole" (defScope s_is_whole) f cdv A outer sh H (bE H E)) (fun cls d _ H' => bE H E cls d H') := takes_of rfl rfl rfl rfl
    refine ⟨_, pss_one (ps_ret (pe_andU (K := K) (pe_callB (callU_isi (K := K)) (by rfl) T.m_isinstance (by decide +kernel) (pa_cons (lv 0) (pa_cons (pe_ty "int" T.m_int) pa_nil))) (pe_andU (K := K) (pe_notU (K := K) (pe_callB (callU_isi (K := K)) (by rfl) T.m_isinstance (by decide +kernel) (pa_cons (lv 0) (pa_cons (pe_ty "bool" T.m_bool) pa_nil)))) (pe_one (pe_chainU opU_le opU_le (lv 1) (lv 0) (lv 2)))))), ?_⟩
    obtain ⟨a, b, rfl, rfl, hk, wf, k⟩ := h
    refine ⟨_, isk_int hk, ?_⟩
    cases v with
    | int n =>
      refine ⟨_, isk_bool hk, ?_⟩
      refine iteC (fun h1 => ?_) (fun h1 => ?_)
      · refine bQ.same wf (Same.refl _) ?_
        have e : isWholeB (.int n) a b = decide (n ≤ b) := by
          show (decide (a ≤ n) && decide (n ≤ b)) = _
          rw [decide_eq_true h1, Bool.true_and]
        rw [← e]
        exact k
      · refine bQ.same wf (Same.refl _) ?_
        have e : isWholeB (.int n) a b = false := by
          show (decide (a ≤ n) && decide (n ≤ b)) = _
          rw [decide_eq_false h1, Bool.false_and]
        rw [← e]
        exact k
    | bl c =>
      refine ⟨_, isk_bool hk, ?_⟩
      exact bQ.same wf (Same.refl _) k
    | str z => exact bQ.same wf (Same.refl _) k
    | non => exact bQ.same wf (Same.refl _) k
    | ref p => exact bQ.same wf (Same.refl _) k
    | byt b => exact hk.elim
    | flt b => exact hk.elim
    | ty b => exact hk.elim

abbrev s_is_moment : Stmt := topS 20
abbrev N_is_moment : List Str := ["thing"]
theorem sc_is_moment : FnScope N_is_moment ["thing"] (defScope s_is_moment) := ⟨rfl, rfl, rfl, by decide +kernel, rfl, by decide +kernel, by decide +kernel⟩
def sp_is_moment (K : PySem.W.Frag) (c : Ad) : Sp := fun vs H Q E => arg1 (fun v => Kn K H v ∧ Wf H ∧ Q (.bl (isWholeB v 0 1000000000000)) H) vs
theorem ok_is_moment {P : Program} {w : World} {K : PySem.W.Frag} {mg : Str → Option Value} {base : Heap} {c : Ad} (T : Txt K mg c) : Ok P w K mg base 2 "is_moment" ["thing"] (sp_is_moment K c) := by
  refine okF T.f_is_moment sc_is_moment (fun vs H Q E h => ?_) (fun f cdv A outer sh H vs Q E hr h => ?_)
  · obtain ⟨v, rfl, h⟩ := arg1.ex h
    rfl
  · obtain ⟨v, rfl, h⟩ := arg1.ex h
    have tk : Takes (cxOf (L2.CX P w) P w K mg base N_is_moment "is_moment" (defScope s_is_moment) f cdv A outer sh H (bE H E)) (fun cls d _ H' => bE H E cls d H') := takes_of rfl rfl rfl rfl
    refine ⟨_, pss_one (ps_ret (pe_f (ok_is_whole (K := K) T) hr passL (pa_cons (lv 0) (pa_cons pe_int (pa_cons (pe_g T.g_MOST_MOMENT) pa_nil))))), ?_⟩
    obtain ⟨hk, wf, k⟩ := h
    exact ⟨0, 1000000000000, rfl, rfl, hk, wf, bQ.same wf (Same.refl _) k⟩

def ScrL (K : PySem.W.Frag) (H : Hp) (v : V) (ns : List Int) : Prop := ∃ a, v = .ref a ∧ SqL K H a (ns.map V.int) ∧ ns.length ≤ 63
theorem mixed_b {r m : Int} (h : 0 < m) : 0 ≤ r % m ∧ r % m < m := ⟨Int.emod_nonneg _ (by omega), Int.emod_lt_of_pos _ h⟩
theorem mul_b {x y : Int} {a b : Nat} (hx0 : 0 ≤ x) (hx : x < 2 ^ a) (hy0 : 0 ≤ y) (hy : y < 2 ^ b) (h0 : 0 < a) (h1 : 0 < b) (h : a + b ≤ 1000000) : CMulW x y := by
  have e1 : (2 : Int) ^ a = ((2 ^ a : Nat) : Int) := by simp
  have e2 : (2 : Int) ^ b = ((2 ^ b : Nat) : Int) := by simp
  refine wide_mul (a := a) (b := b) ?_ ?_ h0 h1 h
  · omega
  · omega
theorem div_b {x j : Int} {b : Nat} (h : 0 < j) (hb : j.natAbs < 2 ^ b) (h0 : 0 < b) (h9 : b ≤ 9000) : CDivW x j := wide_div h hb h0 h9
/-- small enough for a digit -/
def Bas (b : Int) : Prop := 0 < b ∧ b.natAbs.log2 < 9000
theorem bas_lt {b : Int} (h : 0 < b) (h2 : b < 2 ^ 200) : Bas b := ⟨h, by
  have e : b.natAbs < 2 ^ 200 := by omega
  exact Nat.lt_trans (PySem.Flt.log2_lt_of (by decide) e) (by decide)⟩
theorem log_le {x y : Nat} (h : x ≤ y) : x.log2 ≤ y.log2 := by
  by_cases hx : x = 0
  · subst hx; simp
  · exact (Nat.le_log2 (by omega)).2 (Nat.le_trans (Nat.log2_self_le hx) h)

abbrev s__law_cell_at : Stmt := topS 54
abbrev N__law_cell_at : List Str := ["_law_script", "_law_k"]
theorem sc__law_cell_at : FnScope N__law_cell_at ["_law_script", "_law_k"] (defScope s__law_cell_at) := ⟨rfl, rfl, rfl, by decide +kernel, rfl, by decide +kernel, by decide +kernel⟩
def sp__law_cell_at (K : PySem.W.Frag) (c : Ad) : Sp := fun vs H Q E => arg2 (fun s k => ∃ ns j, ScrL K H s ns ∧ k = .int j ∧ 0 ≤ j ∧ Wf H ∧ ∀ n, Q (.int n) H) vs
theorem ok__law_cell_at {P : Program} {w : World} {K : PySem.W.Frag} {mg : Str → Option Value} {base : Heap} {c : Ad} (T : Txt K mg c) : Ok P w K mg base 1 "_law_cell_at" ["_law_script", "_law_k"] (sp__law_cell_at K c) := by
  refine okF T.f__law_cell_at sc__law_cell_at (fun vs H Q E h => ?_) (fun f cdv A outer sh H vs Q E hr h => ?_)
  · obtain ⟨s, k, rfl, h⟩ := arg2.ex h
    rfl
  · obtain ⟨s, k, rfl, h⟩ := arg2.ex h
    have tk : Takes (cxOf (L2.CX P w) P w K mg base N__law_cell_at "_law_cell_at" (defScope s__law_cell_at) f cdv A outer sh H (bE H E)) (fun cls d _ H' => bE H E cls d H') := takes_of rfl rfl rfl rfl
    refine ⟨_, pss_cons (ps_if (pt_cmpU opU_lt (lv 1) (pe_callB (callU_len (K := K)) (by rfl) T.m_len (by decide +kernel) (pa_cons (lv 0) pa_nil)) (nomark _))
      (pss_one (ps_ret (pe_ix (ixU (K := K)) (lv 0) (lv 1) (fun _ _ => rfl)))) pss_nil)
      (pss_one (ps_ret pe_int)), ?_⟩
    obtain ⟨ns, j, ⟨a, rfl, hS, hl⟩, rfl, hj, wf, k⟩ := h
    refine .inl ⟨_, .inl hS, ?_⟩
    refine iteC (fun h1 => ?_) (fun h1 => ?_)
    · obtain ⟨v, hv, hm⟩ := at_lt hj h1
      obtain ⟨n, _, rfl⟩ := List.mem_map.mp hm
      exact ⟨_, _, .inl hS, hv, bQ.same wf (Same.refl _) (k n)⟩
    · exact bQ.same wf (Same.refl _) (k 0)

abbrev s__law_state : Stmt := topS 55
abbrev N__law_state : List Str := ["_law_cell", "_law_k"]
theorem sc__law_state : FnScope N__law_state ["_law_cell", "_law_k"] (defScope s__law_state) := ⟨rfl, rfl, rfl, by decide +kernel, rfl, by decide +kernel, by decide +kernel⟩
def sp__law_state (K : PySem.W.Frag) (c : Ad) : Sp := fun vs H Q E => arg2 (fun c k => ∃ n j, c = .int n ∧ k = .int j ∧ 0 ≤ j ∧ j < 100 ∧ Wf H ∧ ∀ p q a, H a = none → 0 ≤ p → Q (.ref a) (upd H a (stL p q))) vs
theorem ok__law_state {P : Program} {w : World} {K : PySem.W.Frag} {mg : Str → Option Value} {base : Heap} {c : Ad} (T : Txt K mg c) : Ok P w K mg base 1 "_law_state" ["_law_cell", "_law_k"] (sp__law_state K c) := by
  refine okF T.f__law_state sc__law_state (fun vs H Q E h => ?_) (fun f cdv A outer sh H vs Q E hr h => ?_)
  · obtain ⟨c, k, rfl, h⟩ := arg2.ex h
    rfl
  · obtain ⟨c, k, rfl, h⟩ := arg2.ex h
    have tk : Takes (cxOf (L2.CX P w) P w K mg base N__law_state "_law_state" (defScope s__law_state) f cdv A outer sh H (bE H E)) (fun cls d _ H' => bE H E cls d H') := takes_of rfl rfl rfl rfl
    refine ⟨_, pss_one (ps_ret (pe_lst (pa_cons (pe_op opU_mul (lv 0) (pe_callTy callU_int (by rfl) T.m_int (by decide +kernel) (pa_cons (pe_cmpR opU_ge (lv 0) (pe_op opU_pow pe_int pe_int) (nomark _)) pa_nil))) (pa_cons (pe_op (opU_add (K := K)) (pe_op opU_mod (lv 0) pe_int) (pe_op opU_mul pe_int (lv 1))) pa_nil)))), ?_⟩
    obtain ⟨n, j, rfl, rfl, h0, h1, wf, k⟩ := h
    refine ⟨⟨by decide, by decide, by decide⟩, ?_⟩
    refine ⟨.inl (.inr (by split <;> exact ⟨by decide, by decide⟩)), ?_⟩
    refine ⟨by decide, ?_⟩
    refine ⟨.inl (.inl ⟨by decide, by decide⟩), ?_⟩
    refine ⟨line_of (show 2 ≤ 16777216 by decide), fun a na => bQ.mk (wf.new trivial na) (k _ _ a na ?_)⟩
    split
    · rename_i e
      have e2 := of_decide_eq_true e
      have e3 : (10 : Int) ^ Int.toNat 18 = 1000000000000000000 := by decide
      omega
    · omega

abbrev s__law_mixed : Stmt := topS 56
abbrev N__law_mixed : List Str := ["_law_number"]
theorem sc__law_mixed : FnScope N__law_mixed ["_law_number"] (defScope s__law_mixed) := ⟨rfl, rfl, rfl, by decide +kernel, rfl, by decide +kernel, by decide +kernel⟩
def sp__law_mixed (K : PySem.W.Frag) (c : Ad) : Sp := fun vs H Q E => arg1 (fun x => ∃ n, x = .int n ∧ Wf H ∧ ∀ r, 0 ≤ r → Q (.int r) H) vs
theorem ok__law_mixed {P : Program} {w : World} {K : PySem.W.Frag} {mg : Str → Option Value} {base : Heap} {c : Ad} (T : Txt K mg c) : Ok P w K mg base 1 "_law_mixed" ["_law_number"] (sp__law_mixed K c) := by
  refine okF T.f__law_mixed sc__law_mixed (fun vs H Q E h => ?_) (fun f cdv A outer sh H vs Q E hr h => ?_)
  · obtain ⟨x, rfl, h⟩ := arg1.ex h
    rfl
  · obtain ⟨x, rfl, h⟩ := arg1.ex h
    have tk : Takes (cxOf (L2.CX P w) P w K mg base N__law_mixed "_law_mixed" (defScope s__law_mixed) f cdv A outer sh H (bE H E)) (fun cls d _ H' => bE H E cls d H') := takes_of rfl rfl rfl rfl
    refine ⟨_, pss_cons (ps_set (i := 0) sc__law_mixed.nd rfl (.inl rfl) (pe_op opU_mod (pe_op opU_mul (pe_op (opU_add (K := K)) (pe_op opU_mod (lv 0) pe_int) pe_int) pe_int) pe_int))
      (pss_cons (ps_set (i := 0) sc__law_mixed.nd rfl (.inl rfl) (pe_op opU_mod (pe_op opU_mul (lv 0) (pe_op (opU_add (K := K)) (pe_op opU_div (lv 0) pe_int) pe_int)) pe_int))
      (pss_one (ps_ret (pe_op opU_mod (pe_op opU_mul (pe_op (opU_add (K := K)) (lv 0) pe_int) (pe_op (opU_add (K := K)) (pe_op opU_div (lv 0) pe_int) pe_int)) pe_int)))), ?_⟩
    obtain ⟨n, rfl, wf, k⟩ := h
    have b1 := @mixed_b n 2147483647 (by decide)
    refine ⟨by decide, ?_⟩
    refine ⟨.inr <| mul_b (a := 32) (b := 16) (by omega) (by omega) (by decide) (by decide) (by decide) (by decide) (by decide), ?_⟩
    refine ⟨by decide, ?_⟩
    generalize hx : (n % 2147483647 + 1) * 48271 % 2147483647 = x
    have b2 : 0 ≤ x ∧ x < 2147483647 := by rw [← hx]; exact mixed_b (by decide)
    refine ⟨div_b (b := 10) (by decide) (by decide) (by decide) (by decide), ?_⟩
    refine ⟨.inr <| mul_b (a := 31) (b := 32) (by omega) (by omega) (by omega) (by omega) (by decide) (by decide) (by decide), ?_⟩
    refine ⟨by decide, ?_⟩
    generalize hy : x * (x / 1009 + 69621) % 2147483647 = y
    have b3 : 0 ≤ y ∧ y < 2147483647 := by rw [← hy]; exact mixed_b (by decide)
    refine ⟨div_b (b := 10) (by decide) (by decide) (by decide) (by decide), ?_⟩
    refine ⟨.inr <| mul_b (a := 32) (b := 32) (by omega) (by omega) (by omega) (by omega) (by decide) (by decide) (by decide), ?_⟩
    refine ⟨by decide, ?_⟩
    exact bQ.same wf (Same.refl _) (k _ (mixed_b (by decide)).1)

abbrev s__law_digit : Stmt := topS 57
abbrev N__law_digit : List Str := ["_law_state_here", "_law_base", "_law_found"]
theorem sc__law_digit : FnScope N__law_digit ["_law_state_here", "_law_base"] (defScope s__law_digit) := ⟨rfl, rfl, rfl, by decide +kernel, rfl, by decide +kernel, by decide +kernel⟩
def sp__law_digit (K : PySem.W.Frag) (c : Ad) : Sp := fun vs H Q E => arg2 (fun s b => ∃ a m, s = .ref a ∧ b = .int m ∧ St2 H a ∧ Bas m ∧ Wf H ∧ ∀ r p q, 0 ≤ r → r < m → 0 ≤ p → Q (.int r) (upd H a (stL p q))) vs
theorem ok__law_digit {P : Program} {w : World} {K : PySem.W.Frag} {mg : Str → Option Value} {base : Heap} {c : Ad} (T : Txt K mg c) : Ok P w K mg base 2 "_law_digit" ["_law_state_here", "_law_base"] (sp__law_digit K c) := by
  refine okF T.f__law_digit sc__law_digit (fun vs H Q E h => ?_) (fun f cdv A outer sh H vs Q E hr h => ?_)
  · obtain ⟨s, b, rfl, h⟩ := arg2.ex h
    rfl
  · obtain ⟨s, b, rfl, h⟩ := arg2.ex h
    have tk : Takes (cxOf (L2.CX P w) P w K mg base N__law_digit "_law_digit" (defScope s__law_digit) f cdv A outer sh H (bE H E)) (fun cls d _ H' => bE H E cls d H') := takes_of rfl rfl rfl rfl
    refine ⟨_, pss_cons (ps_if (pt_cmpU opU_gt (pe_ix (ixU (K := K)) (lv 0) pe_int (fun _ _ => rfl)) pe_int (nomark _))
      (pss_cons (ps_set (i := 2) sc__law_digit.nd rfl (.inl rfl) (pe_op opU_mod (pe_ix (ixU (K := K)) (lv 0) pe_int (fun _ _ => rfl)) (lv 1)))
      (pss_cons (ps_asg (pe_op opU_div (pe_ix (ixU (K := K)) (lv 0) pe_int (fun _ _ => rfl)) (lv 1)) (pg_sub (lv 0) pe_int setU))
      (pss_one (ps_ret (lv 2))))) pss_nil)
      (pss_cons (ps_asg (pe_f (ok__law_mixed (K := K) T) hr passL (pa_cons (pe_op (opU_add (K := K)) (pe_ix (ixU (K := K)) (lv 0) pe_int (fun _ _ => rfl)) pe_int) pa_nil)) (pg_sub (lv 0) pe_int setU))
      (pss_one (ps_ret (pe_op opU_mod (pe_op opU_div (pe_ix (ixU (K := K)) (lv 0) pe_int (fun _ _ => rfl)) pe_int) (lv 1))))), ?_⟩
    obtain ⟨a, m, rfl, rfl, ⟨p, q, e, hp⟩, ⟨hm, hb⟩, wf, k⟩ := h
    have s1 : ∀ {H : Hp} {p q : Int}, H a = some (stL p q) → SqL K H a [.int p, .int q] := fun h => .inl (.inl h)
    have g0 : ∀ {p q : Int}, atI [V.int p, V.int q] 0 = some (.int p) := fun {p q} => rfl
    have g1 : ∀ {p q : Int}, atI [V.int p, V.int q] 1 = some (.int q) := fun {p q} => rfl
    refine ⟨_, _, .inl (s1 e), g0, ?_⟩
    refine iteC (fun h1 => ?_) (fun h1 => ?_)
    · refine ⟨_, _, .inl (s1 e), g0, hm, ?_⟩
      refine ⟨_, _, .inl (s1 e), g0, ⟨hm, hb⟩, ?_⟩
      refine ⟨_, 0, e, rfl, ?_⟩
      exact bQ.mk (wf.at trivial e fun x z => by cases z) (k _ _ _ (mixed_b hm).1 (mixed_b hm).2 (Int.ediv_nonneg hp (by omega)))
    · refine ⟨_, _, .inl (s1 e), g1, ?_⟩
      refine ⟨_, rfl, wf, fun r hr => ?_⟩
      refine ⟨_, 1, e, rfl, ?_⟩
      have e1 : (upd H a (stL p r)) a = some (stL p r) := upd_same
      refine ⟨_, _, .inl (s1 e1), g1, div_b (b := 8) (by decide) (by decide) (by decide) (by decide), hm, ?_⟩
      exact bQ.mk (wf.at trivial e fun x z => by cases z) (k _ _ _ (mixed_b hm).1 (mixed_b hm).2 hp)

def isCountB : V → Bool | .int n => decide (0 ≤ n) | _ => false
def isWholeD : PyData → Int → Int → Bool
  | .int n, a, b => decide (a ≤ n) && decide (n ≤ b)
  | _, _, _ => false
theorem whole_dp {K : PySem.W.Frag} {H : Hp} {v : V} {d : PyData} (h : Dp K H v d) (a b : Int) : isWholeB v a b = isWholeD d a b := by cases h <;> rfl
def arePausesD : PyData → Bool
  | .tuple ds => decide ((ds.length : Int) ≤ 10) && ds.all fun d => isWholeD d 0 1000000
  | _ => false
def isOrderD : PyData → Bool
  | .str z => inV (.str z) [.str "put", .str "turns"]
  | _ => false
def isRuleD : PyData → Bool
  | .tuple [a, b, c, e, f] => isOrderD a && (isWholeD b 1 20 && isWholeD c 1 1000000) && (arePausesD e && isWholeD f 0 200)
  | _ => false
theorem all_whole {K : PySem.W.Frag} {H : Hp} : ∀ {xs : List V} {ds : List PyData}, DpAll K H xs ds → ∀ a b : Int, (xs.map fun x => isWholeB x a b) = ds.map fun d => isWholeD d a b
  | _, _, .nil, _, _ => rfl
  | _, _, .cons h r, a, b => by rw [List.map_cons, List.map_cons, whole_dp h, all_whole r]
theorem rule_len {ds : List PyData} (h : ds.length ≠ 5) : isRuleD (.tuple ds) = false := by
  match ds, h with
  | [], _ => rfl
  | [_], _ => rfl
  | [_, _], _ => rfl
  | [_, _, _], _ => rfl
  | [_, _, _, _], _ => rfl
  | [_, _, _, _, _], h => exact absurd rfl h
  | _ :: _ :: _ :: _ :: _ :: _ :: _, _ => rfl

abbrev s_is_count : Stmt := topS 19
abbrev N_is_count : List Str := ["thing"]
theorem sc_is_count : FnScope N_is_count ["thing"] (defScope s_is_count) := ⟨rfl, rfl, rfl, by decide +kernel, rfl, by decide +kernel, by decide +kernel⟩
def sp_is_count (K : PySem.W.Frag) (c : Ad) : Sp := fun vs H Q E => arg1 (fun v => Kn K H v ∧ Wf H ∧ Q (.bl (isCountB v)) H) vs
theorem ok_is_count {P : Program} {w : World} {K : PySem.W.Frag} {mg : Str → Option Value} {base : Heap} {c : Ad} (T : Txt K mg c) : Ok P w K mg base 1 "is_count" ["thing"] (sp_is_count K c) := by
  refine okF T.f_is_count sc_is_count (fun vs H Q E h => ?_) (fun f cdv A outer sh H vs Q E hr h => ?_)
  · obtain ⟨v, rfl, h⟩ := arg1.ex h
    rfl
  · obtain ⟨v, rfl, h⟩ := arg1.ex h
    have tk : Takes (cxOf (L2.CX P w) P w K mg base N_is_count "is_count" (defScope s_is_count) f cdv A outer sh H (bE H E)) (fun cls d _ H' => bE H E cls d H') := takes_of rfl rfl rfl rfl
    refine ⟨_, pss_one (ps_ret (pe_andU (K := K) (pe_callB (callU_isi (K := K)) (by rfl) T.m_isinstance (by decide +kernel) (pa_cons (lv 0) (pa_cons (pe_ty "int" T.m_int) pa_nil))) (pe_andU (K := K) (pe_notU (K := K) (pe_callB (callU_isi (K := K)) (by rfl) T.m_isinstance (by decide +kernel) (pa_cons (lv 0) (pa_cons (pe_ty "bool" T.m_bool) pa_nil)))) (pe_one (pe_cmpR opU_ge (lv 0) pe_int (nomark _)))))), ?_⟩
    obtain ⟨hk, wf, k⟩ := h
    refine ⟨_, isk_int hk, ?_⟩
    cases v with
    | int n => exact ⟨_, isk_bool hk, bQ.same wf (Same.refl _) k⟩
    | bl n => exact ⟨_, isk_bool hk, bQ.same wf (Same.refl _) k⟩
    | str z => exact bQ.same wf (Same.refl _) k
    | non => exact bQ.same wf (Same.refl _) k
    | ref p => exact bQ.same wf (Same.refl _) k
    | byt b => exact hk.elim
    | flt b => exact hk.elim
    | ty b => exact hk.elim

abbrev figs : List Nat := ("0123456789" : Str).cps.toList
def figB (z : Str) : Bool := z.cps.toList.all fun c => decide (c ∈ figs)
/-- the number that a word tells -/
def wholeO (z : Str) : Option Int :=
  if decide (1 ≤ (z.length : Int)) && decide ((z.length : Int) ≤ 13) && figB z && !(decide (1 < (z.length : Int)) && Txt.startswith z "0") then PySem.intText? z else none
def optI : Option Int → V | none => .non | some n => .int n
theorem figs_digit {c : Nat} (h : c ∈ figs) : (decide (48 ≤ c) && decide (c ≤ 57)) = true := by
  have : ∀ c ∈ figs, (decide (48 ≤ c) && decide (c ≤ 57)) = true := by decide +kernel
  exact this c h
theorem int_figs {z : Str} (h : figB z = true) (h0 : 1 ≤ z.length) (h1 : z.length ≤ 13) : ∃ n, PySem.intText? z = some n := by
  have e : z = SX.S z.cps.toList := (SX.S_tl z).symm
  have hl : z.cps.toList.length = z.length := Array.length_toList
  refine ⟨((NumText.digitsVal z.cps.toList : Nat) : Int), ?_⟩
  rw [e]
  have := SX.int_S (a := z.cps.toList) (by
    rw [List.all_eq_true]
    intro c hc
    unfold figB at h
    rw [List.all_eq_true] at h
    exact figs_digit (of_decide_eq_true (h c hc))) (fun q => by rw [q] at hl; simp at hl; omega) (by omega)
  rw [this]

abbrev s_joined : Stmt := topS 21
abbrev N_joined : List Str := ["words", "between"]
theorem sc_joined : FnScope N_joined ["words", "between"] (defScope s_joined) := ⟨rfl, rfl, rfl, by decide +kernel, rfl, by decide +kernel, by decide +kernel⟩
def sp_joined (K : PySem.W.Frag) (c : Ad) : Sp := fun vs H Q E => arg2 (fun v u => ∃ p ws b, v = .ref p ∧ u = .str b ∧ SqL K H p (ws.map V.str) ∧ (∀ z ∈ ws, sOk z ∧ z.length ≤ 1000) ∧ ws.length ≤ 1000 ∧ b.length ≤ 10 ∧ Wf H ∧ Q (.str (if ws = [] then "-" else Txt.join b ws)) H) vs
theorem ok_joined {P : Program} {w : World} {K : PySem.W.Frag} {mg : Str → Option Value} {base : Heap} {c : Ad} (T : Txt K mg c) : Ok P w K mg base 1 "joined" ["words", "between"] (sp_joined K c) := by
  refine okF T.f_joined sc_joined (fun vs H Q E h => ?_) (fun f cdv A outer sh H vs Q E hr h => ?_)
  · obtain ⟨v, u, rfl, h⟩ := arg2.ex h
    rfl
  · obtain ⟨v, u, rfl, h⟩ := arg2.ex h
    have tk : Takes (cxOf (L2.CX P w) P w K mg base N_joined "joined" (defScope s_joined) f cdv A outer sh H (bE H E)) (fun cls d _ H' => bE H E cls d H') := takes_of rfl rfl rfl rfl
    refine ⟨_, pss_cons (ps_if (pt_cmpU (opU_eq (K := K) hr) (lv 0) (pe_lst pa_nil) (nomark _))
      (pss_one (ps_ret pe_str)) pss_nil)
      (pss_one (ps_ret (pe_join (lv 1) (lv 0)))), ?_⟩
    obtain ⟨p, ws, b, rfl, rfl, hp, hw, hl, hb, wf, k⟩ := h
    refine ⟨line_of (show 0 ≤ 16777216 by decide), fun e ne => ?_⟩
    have sm := same_new (o := .lst []) ne
    refine ⟨.list (ws.map .str), .list [], .lst (sm.seq hp) (dp_strs ws), .lst (.inl (.inl upd_same)) .nil, shape_strs fun z hz => (hw z hz).1, rfl, ?_⟩
    have ew : PyData.eqv (.list (ws.map PyData.str)) (.list []) = ws.isEmpty := by cases ws <;> rfl
    refine iteB (c := PyData.eqv (.list (ws.map PyData.str)) (.list [])) (fun h1 => ?_) (fun h1 => ?_)
    · rw [ew, List.isEmpty_iff] at h1
      rw [if_pos h1] at k
      exact bQ.same wf sm k
    · have hn : ws ≠ [] := fun q => by
        rw [ew, q] at h1
        cases h1
      rw [if_neg hn] at k
      refine ⟨⟨_, rfl⟩, _, _, ws, rfl, rfl, .inl (sm.seq hp), ?_, ?_⟩
      · have h2 : (ws.map (·.length)).sum ≤ ws.length * 1000 := by
          clear hp hn k ew h1 hl
          induction ws with
          | nil => exact Nat.zero_le _
          | cons z r ih =>
            rw [List.map_cons, List.sum_cons, List.length_cons]
            have := (hw z List.mem_cons_self).2
            have := ih fun x hx => hw x (List.mem_cons_of_mem _ hx)
            omega
        have h3 : ws.length * b.length ≤ 1000 * 10 := Nat.mul_le_mul hl hb
        omega
      · exact bQ.same wf sm k

def ruleD (o : Str) (t l : Int) (ps : List Int) (m : Int) : PyData := .tuple [.str o, .int t, .int l, .tuple (ps.map .int), .int m]
def RuleOk (o : Str) (t l : Int) (ps : List Int) (m : Int) : Prop := (o = "put" ∨ o = "turns") ∧ (1 ≤ t ∧ t ≤ 20) ∧ (1 ≤ l ∧ l ≤ 1000000) ∧ (ps.length ≤ 10 ∧ ∀ p ∈ ps, 0 ≤ p ∧ p ≤ 1000000) ∧ 0 ≤ m ∧ m ≤ 200
theorem rule_ok {o : Str} {t l : Int} {ps : List Int} {m : Int} (h : RuleOk o t l ps m) : isRuleD (ruleD o t l ps m) = true := by
  obtain ⟨ho, ⟨h1, h2⟩, ⟨h3, h4⟩, ⟨h5, h6⟩, h7, h8⟩ := h
  have e1 : isOrderD (.str o) = true := by
    rcases ho with rfl | rfl <;> decide +kernel
  have w : ∀ {n a b : Int}, a ≤ n → n ≤ b → isWholeD (.int n) a b = true := fun {n a b} x y => by
    show (decide (a ≤ n) && decide (n ≤ b)) = true
    rw [decide_eq_true x, decide_eq_true y]
    rfl
  have e2 : arePausesD (.tuple (ps.map .int)) = true := by
    show (decide (((ps.map PyData.int).length : Int) ≤ 10) && _) = true
    rw [decide_eq_true (by rw [List.length_map]; omega), Bool.true_and, List.all_map, List.all_eq_true]
    intro p hp
    exact w (h6 p hp).1 (h6 p hp).2
  show (isOrderD (.str o) && (isWholeD (.int t) 1 20 && isWholeD (.int l) 1 1000000) && (arePausesD (.tuple (ps.map .int)) && isWholeD (.int m) 0 200)) = true
  rw [e1, w h1 h2, w h3 h4, e2, w h7 h8]
  rfl
def pauseB (ps : List Int) (n : Int) : Int := if ps = [] then 0 else ps.getD ((if (ps.length : Int) < n then (ps.length : Int) else n) - 1).toNat 0
theorem shape_ints (zs : List Int) : SeqAt.shaped (.tuple (zs.map .int)) = true := by
  have h1 : PyData.canLayAll0 (zs.map .int) = true := by
    induction zs with
    | nil => rfl
    | cons z r ih =>
      show (true && PyData.canLayAll0 (r.map .int)) = true
      rw [ih]
      rfl
  have h2 : PyData.depthAll (zs.map .int) = 0 := by
    clear h1
    induction zs with
    | nil => rfl
    | cons z r ih =>
      show max 0 (PyData.depthAll (r.map .int)) = 0
      rw [ih]
      rfl
  unfold SeqAt.shaped
  show (PyData.canLayAll0 (zs.map .int) && decide (PyData.depthAll (zs.map .int) + 1 ≤ 64)) = true
  rw [h1, h2]
  rfl
theorem dpa_ints {K : PySem.W.Frag} {H : Hp} : ∀ {xs : List V} {ns : List Int}, DpAll K H xs (ns.map .int) → xs = ns.map V.int
  | [], [], _ => rfl
  | [], n :: r, h => by cases h
  | x :: xs, [], h => by cases h
  | x :: xs, n :: r, h => by
    cases h with
    | cons g h =>
      cases g
      rw [dpa_ints h]
      rfl
theorem rule_at {K : PySem.W.Frag} {H : Hp} {v : V} {o : Str} {t l : Int} {ps : List Int} {m : Int} (h : Dp K H v (ruleD o t l ps m)) : ∃ p q, v = .ref p ∧ SqT K H p [.str o, .int t, .int l, .ref q, .int m] ∧ SqT K H q (ps.map V.int) := by
  cases h with
  | @tup p xs ds hT ha =>
    obtain ⟨x1, x2, x3, x4, x5, d1, d2, d3, d4, d5, rfl, e, g1, g2, g3, g4, g5⟩ := dpa5 ha (dpa_len ha)
    cases e
    cases g1
    cases g2
    cases g3
    cases g5
    cases g4 with
    | @tup q ys es hq hb =>
      have := dpa_ints hb
      subst this
      exact ⟨p, q, rfl, hT, hq⟩
theorem eqv_nil (ps : List Int) : PyData.eqv (.tuple (ps.map .int)) (.tuple []) = ps.isEmpty := by cases ps <;> rfl

/-- a number as it is told -/
abbrev numT (n : Int) : Str := PySem.Str.ofString (toString n)
theorem num_nat {n : Int} (h : 0 ≤ n) : numT n = SX.S (TL.numL n.toNat) := by
  obtain ⟨j, rfl⟩ : ∃ j : Nat, n = j := ⟨n.toNat, by omega⟩
  exact SX.num_S j
def joinT (ws : List Str) (b : Str) : Str := if ws = [] then "-" else Txt.join b ws
/-- a rule's text -/
def ruleT (o : Str) (t l : Int) (ps : List Int) (m : Int) : Str := Txt.join " " [o, numT t, numT l, joinT (ps.map numT) ",", numT m]
theorem num_ok {n : Int} (h : 0 ≤ n) (h2 : n ≤ 1000000) : sOk (numT n) ∧ (numT n).length ≤ 7 ∧ n.natAbs.log2 < 1920 := by
  rw [num_nat h]
  refine ⟨sOk_list fun c hc => ?_, ?_, ?_⟩
  · have := TL.numL_digits n.toNat c hc
    omega
  · rw [SX.S_len]
    exact TL.numL_len (by decide) (by omega)
  · have e : n.natAbs < 2 ^ 20 := by omega
    exact Nat.lt_trans (PySem.Flt.log2_lt_of (by decide) e) (by decide)
theorem sum_le {ws : List Str} {n : Nat} (h : ∀ z ∈ ws, z.length ≤ n) : (ws.map (·.length)).sum ≤ ws.length * n := by
  induction ws with
  | nil => exact Nat.zero_le _
  | cons z r ih =>
    rw [List.map_cons, List.sum_cons, List.length_cons]
    have := h z List.mem_cons_self
    have := ih fun x hx => h x (List.mem_cons_of_mem _ hx)
    rw [Nat.succ_mul]
    omega
theorem joinT_len {ws : List Str} {b : Str} (h : ∀ z ∈ ws, z.length ≤ 7) (hl : ws.length ≤ 10) (hb : b.length ≤ 1) : (joinT ws b).length ≤ 80 := by
  unfold joinT
  split
  · decide
  · have h1 : (Txt.join b ws).length ≤ (ws.map (·.length)).sum + ws.length * b.length := by
      rw [show Txt.join b ws = PySem.Str.join b ws from StrLaws.glued_eq_join ..]
      exact StrLaws.join_length_le b ws
    have h2 := sum_le h
    have h3 : ws.length * b.length ≤ 10 * 1 := Nat.mul_le_mul hl hb
    omega

theorem pre1 (c x : Nat) (r : List Nat) : TL.pre [c] (x :: r) = (x == c) := by
  unfold TL.pre
  simp
  try exact Bool.beq_comm
theorem spl_parts {c : Nat} : ∀ (l acc : List Nat), (∀ p ∈ TL.spl [c] 0 acc l, p.length ≤ acc.length + l.length) ∧ (TL.spl [c] 0 acc l).length ≤ l.length + 1
  | [], acc => by
    rw [TL.spl_nil]
    simp
  | x :: r, acc => by
    cases h : TL.pre [c] (x :: r) with
    | true =>
      rw [TL.spl_hit h]
      have := spl_parts (c := c) r []
      refine ⟨fun p hp => ?_, ?_⟩
      · rcases List.mem_cons.mp hp with rfl | hp
        · omega
        · have := this.1 p hp
          simp only [List.length_cons, List.length_nil] at this ⊢
          omega
      · have := this.2
        simp only [List.length_cons] at this ⊢
        exact Nat.succ_le_succ this
    | false =>
      rw [TL.spl_miss h]
      have := spl_parts (c := c) r (acc ++ [x])
      refine ⟨fun p hp => ?_, ?_⟩
      · have := this.1 p hp
        simp only [List.length_append, List.length_cons, List.length_nil] at this ⊢
        omega
      · have := this.2
        simp only [List.length_cons] at this ⊢
        omega
/-- the words of a text, parted by one sign -/
theorem split_parts {z : Str} {c : Nat} (hc : c < 256) : (∀ p ∈ Txt.split z (SX.S [c]), p.length ≤ z.length) ∧ (Txt.split z (SX.S [c])).length ≤ z.length + 1 := by
  have e : Txt.split z (SX.S [c]) = (TL.spl [c] 0 [] z.cps.toList).map SX.S := by
    have := SX.split_S (a := z.cps.toList) (b := [c]) (by simp) (by simpa using hc)
    rw [SX.S_tl] at this
    exact this
  have hl : z.cps.toList.length = z.length := Array.length_toList
  have := spl_parts (c := c) z.cps.toList []
  rw [e]
  refine ⟨fun p hp => ?_, ?_⟩
  · obtain ⟨q, hq, rfl⟩ := List.mem_map.mp hp
    have := this.1 q hq
    rw [SX.S_len]
    simp only [List.length_nil] at this
    omega
  · rw [List.length_map]
    omega

def optID : Option Int → PyData | none => .none | some n => .int n
theorem opti_dp {K : PySem.W.Frag} {H : Hp} : ∀ o : Option Int, Dp K H (optI o) (optID o)
  | none => .non
  | some n => .int n
abbrev comma : Str := SX.S [44]
abbrev blank : Str := SX.S [32]
def pausesD (z : Str) : PyData := if z = "-" then .tuple [] else .tuple ((Txt.split z comma).map fun w => optID (wholeO w))
theorem optis_dp {K : PySem.W.Frag} {H : Hp} : ∀ ws : List Str, DpAll K H (ws.map fun w => optI (wholeO w)) (ws.map fun w => optID (wholeO w))
  | [] => .nil
  | w :: r => .cons (opti_dp _) (optis_dp r)

/-- the rule that five words tell -/
def ruleOfD : List Str → Option PyData
  | [a, b, c, d, e] => if isRuleD (.tuple [.str a, optID (wholeO b), optID (wholeO c), pausesD d, optID (wholeO e)]) then some (.tuple [.str a, optID (wholeO b), optID (wholeO c), pausesD d, optID (wholeO e)]) else none
  | _ => none
theorem rof_len {ws : List Str} (h : ws.length ≠ 5) : ruleOfD ws = none := by
  match ws, h with
  | [], _ => rfl
  | [_], _ => rfl
  | [_, _], _ => rfl
  | [_, _, _], _ => rfl
  | [_, _, _, _], _ => rfl
  | [_, _, _, _, _], h => exact absurd rfl h
  | _ :: _ :: _ :: _ :: _ :: _ :: _, _ => rfl
theorem five {ws : List Str} (h : ws.length = 5) : ∃ a b c d e, ws = [a, b, c, d, e] := by
  match ws, h with
  | [a, b, c, d, e], _ => exact ⟨a, b, c, d, e, rfl⟩

def readD (z : Str) : Option PyData := ruleOfD (Txt.split z blank)

theorem starts_one {z : Str} {c : Nat} : Txt.startswith z (SX.S [c]) = (z.cps.toList[0]? == some c) := by
  have h := PySem.StrLaws.subAt_one z c 0
  have e : Txt.startswith z (SX.S [c]) = (decide (0 + (SX.S [c]).length ≤ z.length) && PySem.Builtin.Str.subAt z (SX.S [c]) 0) := rfl
  rw [e, Bool.eq_iff_iff, Bool.and_eq_true, decide_eq_true_eq, beq_iff_eq]
  exact h
theorem numL_head : ∀ n : Nat, 0 < n → (TL.numL n)[0]? ≠ some 48 := by
  intro n
  induction n using Nat.strongRecOn with
  | _ n ih =>
    intro h0
    by_cases h : n < 10
    · rw [TL.numL_lt h]
      simp
      omega
    · rw [TL.numL_step (by omega)]
      have := ih (n / 10) (by omega) (by omega)
      rw [List.getElem?_append_left (List.length_pos_iff.mpr (TL.numL_ne _))]
      exact this
theorem num_whole {n : Int} (h : 0 ≤ n) (h2 : n ≤ 1000000) : wholeO (numT n) = some n := by
  have hl : (numT n).length ≤ 7 := (num_ok h h2).2.1
  have e := num_nat h
  have hd : figB (numT n) = true := by
    unfold figB
    rw [e, List.all_eq_true]
    intro c hc
    have := TL.numL_digits n.toNat c hc
    have f : ∀ c, 48 ≤ c → c ≤ 57 → c ∈ figs := by
      intro c a b
      obtain rfl | rfl | rfl | rfl | rfl | rfl | rfl | rfl | rfl | rfl : c = 48 ∨ c = 49 ∨ c = 50 ∨ c = 51 ∨ c = 52 ∨ c = 53 ∨ c = 54 ∨ c = 55 ∨ c = 56 ∨ c = 57 := by omega
      all_goals decide +kernel
    exact decide_eq_true (f c this.1 this.2)
  have h1 : 1 ≤ (numT n).length := by
    rw [e, SX.S_len]
    exact List.length_pos_iff.mpr (TL.numL_ne _)
  have hi : PySem.intText? (numT n) = some n := by
    obtain ⟨j, rfl⟩ : ∃ j : Nat, n = j := ⟨n.toNat, by omega⟩
    exact TL.int_num (by rw [← SX.S_len, ← SX.num_S]; show (numT (j : Int)).length ≤ 4300; omega)
  unfold wholeO
  rw [hd, hi, decide_eq_true (by omega), decide_eq_true (by omega)]
  have hz : (decide (1 < ((numT n).length : Int)) && Txt.startswith (numT n) "0") = false := by
    have e0 : Txt.startswith (numT n) "0" = ((numT n).cps.toList[0]? == some 48) := starts_one
    rw [e0, e]
    by_cases hn : n.toNat = 0
    · rw [hn]
      rfl
    · have := numL_head n.toNat (by omega)
      have e3 : ((SX.S (TL.numL n.toNat)).cps.toList[0]? == some 48) = false := by
        rw [beq_eq_false_iff_ne]
        exact this
      rw [e3, Bool.and_false]
  rw [hz]
  rfl

theorem join_split {ws : List Str} {c : Nat} (hc : c < 256) (hne : ws ≠ []) (h : ∀ w ∈ ws, c ∉ w.cps.toList) : Txt.split (Txt.join (SX.S [c]) ws) (SX.S [c]) = ws := by
  have e1 : ws = (ws.map (fun w => w.cps.toList)).map SX.S := by
    rw [List.map_map]
    conv => lhs; rw [← List.map_id ws]
    apply List.map_congr_left
    intro w _
    exact (SX.S_tl w).symm
  have e2 : Txt.join (SX.S [c]) ws = SX.S (TL.joinL [c] (ws.map (fun w => w.cps.toList))) := by
    conv => lhs; rw [e1]
    exact SX.join_S _ _
  rw [e2, SX.split_S (by simp) (by simpa using hc), SX.spl_join (by simpa using hne) (fun p hp => ?_), ← e1]
  obtain ⟨w, hw, rfl⟩ := List.mem_map.mp hp
  exact h w hw
theorem num_free {n : Int} {c : Nat} (h : 0 ≤ n) (hc : c < 48 ∨ 57 < c) : c ∉ (numT n).cps.toList := by
  rw [num_nat h]
  exact TL.numL_free hc
theorem pauses_back {ps : List Int} (h : ∀ p ∈ ps, 0 ≤ p ∧ p ≤ 1000000) : pausesD (joinT (ps.map numT) comma) = .tuple (ps.map .int) := by
  by_cases hn : ps = []
  · subst hn
    rfl
  · have hne : ps.map numT ≠ [] := by simpa using hn
    have e1 : joinT (ps.map numT) comma = Txt.join comma (ps.map numT) := if_neg hne
    have e2 : Txt.split (Txt.join comma (ps.map numT)) comma = ps.map numT := join_split (by decide) hne fun w hw => by
      obtain ⟨n, hn, rfl⟩ := List.mem_map.mp hw
      exact num_free (h n hn).1 (by decide)
    have e3 : Txt.join comma (ps.map numT) ≠ "-" := fun e => by
      rw [e] at e2
      have e4 : Txt.split "-" comma = [("-" : Str)] := by decide +kernel
      rw [e4] at e2
      cases ps with
      | nil => exact hn rfl
      | cons p r =>
        rw [List.map_cons] at e2
        have e5 := (List.cons.inj e2).1
        have hp := num_free (n := p) (c := 45) (h p List.mem_cons_self).1 (by decide)
        rw [← e5] at hp
        exact hp (by decide +kernel)
    unfold pausesD
    rw [e1, if_neg e3, e2, List.map_map]
    congr 1
    apply List.map_congr_left
    intro p hp
    show optID (wholeO (numT p)) = .int p
    rw [num_whole (h p hp).1 (h p hp).2]
    rfl

theorem joinL_mem {s : List Nat} {c : Nat} : ∀ {ps : List (List Nat)}, c ∈ TL.joinL s ps → c ∈ s ∨ ∃ p ∈ ps, c ∈ p
  | [], h => by cases h
  | [p], h => .inr ⟨p, List.mem_cons_self, h⟩
  | p :: q :: r, h => by
    have h2 : c ∈ p ++ (s ++ TL.joinL s (q :: r)) := h
    rcases List.mem_append.mp h2 with h | h
    · exact .inr ⟨p, List.mem_cons_self, h⟩
    · rcases List.mem_append.mp h with h | h
      · exact .inl h
      · rcases joinL_mem h with h | ⟨x, hx, h⟩
        · exact .inl h
        · exact .inr ⟨x, List.mem_cons_of_mem _ hx, h⟩
theorem join_eq (c : Nat) (ws : List Str) : Txt.join (SX.S [c]) ws = SX.S (TL.joinL [c] (ws.map (fun w => w.cps.toList))) := by
  have e1 : ws = (ws.map (fun w => w.cps.toList)).map SX.S := by
    rw [List.map_map]
    conv => lhs; rw [← List.map_id ws]
    apply List.map_congr_left
    intro w _
    exact (SX.S_tl w).symm
  conv => lhs; rw [e1]
  exact SX.join_S _ _
theorem pauses_free {ps : List Int} (h : ∀ p ∈ ps, 0 ≤ p ∧ p ≤ 1000000) : 32 ∉ (joinT (ps.map numT) comma).cps.toList := by
  unfold joinT
  split
  · decide +kernel
  · rw [join_eq]
    intro hm
    rcases joinL_mem hm with hm | ⟨p, hp, hm⟩
    · revert hm
      decide
    · obtain ⟨w, hw, rfl⟩ := List.mem_map.mp hp
      obtain ⟨n, hn, rfl⟩ := List.mem_map.mp hw
      exact num_free (h n hn).1 (by decide) hm
/-- a rule's text is read to the rule -/
theorem read_back {o : Str} {t l : Int} {ps : List Int} {m : Int} (h : RuleOk o t l ps m) : readD (ruleT o t l ps m) = some (ruleD o t l ps m) := by
  have ok := rule_ok h
  obtain ⟨ho, ⟨h1, h2⟩, ⟨h3, h4⟩, ⟨h5, h6⟩, h7, h8⟩ := h
  have e : Txt.split (ruleT o t l ps m) blank = [o, numT t, numT l, joinT (ps.map numT) comma, numT m] := join_split (by decide) (by simp) fun w hw => by
    simp only [List.mem_cons, List.not_mem_nil, or_false] at hw
    rcases hw with rfl | rfl | rfl | rfl | rfl
    · rcases ho with rfl | rfl <;> decide +kernel
    · exact num_free (by omega) (by decide)
    · exact num_free (by omega) (by decide)
    · exact pauses_free h6
    · exact num_free (by omega) (by decide)
  have er : ∀ (a b d e : Str) (f : Str), ruleOfD [a, b, d, e, f] = if isRuleD (.tuple [.str a, optID (wholeO b), optID (wholeO d), pausesD e, optID (wholeO f)]) then some (.tuple [.str a, optID (wholeO b), optID (wholeO d), pausesD e, optID (wholeO f)]) else none := fun _ _ _ _ _ => rfl
  unfold readD
  rw [e, er, num_whole (n := t) (by omega) (by omega), num_whole (n := l) (by omega) (by omega), num_whole (n := m) (by omega) (by omega), pauses_back h6]
  exact if_pos ok

/-- a rule stands at v -/
def RuleAt (K : PySem.W.Frag) (H : Hp) (v : V) (o : Str) (t l : Int) (ps : List Int) (m : Int) : Prop := ∃ p q, v = .ref p ∧ SqT K H p [.str o, .int t, .int l, .ref q, .int m] ∧ SqT K H q (ps.map V.int)
theorem RuleAt.dp {K : PySem.W.Frag} {H : Hp} {v : V} {o : Str} {t l : Int} {ps : List Int} {m : Int} (h : RuleAt K H v o t l ps m) : Dp K H v (ruleD o t l ps m) := by
  obtain ⟨p, q, rfl, h1, h2⟩ := h
  exact .tup h1 (.cons (.str o) (.cons (.int t) (.cons (.int l) (.cons (.tup h2 (dp_ints ps)) (.cons (.int m) .nil)))))
theorem RuleAt.keep {K : PySem.W.Frag} {H H' : Hp} {v : V} {o : Str} {t l : Int} {ps : List Int} {m : Int} (h : RuleAt K H v o t l ps m) (k : ∀ p xs, SqT K H p xs → SqT K H' p xs) : RuleAt K H' v o t l ps m := by
  obtain ⟨p, q, rfl, h1, h2⟩ := h
  exact ⟨p, q, rfl, k _ _ h1, k _ _ h2⟩

abbrev s__law_rule : Stmt := topS 58
abbrev N__law_rule : List Str := ["_law_state_here", "_law_order", "_law_tries", "_law_longest", "_law_pauses", "_law_k", "_law_some", "_law_most"]
theorem sc__law_rule : FnScope N__law_rule ["_law_state_here"] (defScope s__law_rule) := ⟨rfl, rfl, rfl, by decide +kernel, rfl, by decide +kernel, by decide +kernel⟩
def sp__law_rule (K : PySem.W.Frag) (c : Ad) : Sp := fun vs H Q E => arg1 (fun s => ∃ a, s = .ref a ∧ St2 H a ∧ Wf H ∧ ∀ v H' o t l ps m, Dr a H H' → RuleAt K H' v o t l ps m → RuleOk o t l ps m → Q v H') vs
theorem ok__law_rule {P : Program} {w : World} {K : PySem.W.Frag} {mg : Str → Option Value} {base : Heap} {c : Ad} (T : Txt K mg c) : Ok P w K mg base 3 "_law_rule" ["_law_state_here"] (sp__law_rule K c) := by
  refine okF T.f__law_rule sc__law_rule (fun vs H Q E h => ?_) (fun f cdv A outer sh H vs Q E hr h => ?_)
  · obtain ⟨s, rfl, h⟩ := arg1.ex h
    rfl
  · obtain ⟨s, rfl, h⟩ := arg1.ex h
    have tk : Takes (cxOf (L2.CX P w) P w K mg base N__law_rule "_law_rule" (defScope s__law_rule) f cdv A outer sh H (bE H E)) (fun cls d _ H' => bE H E cls d H') := takes_of rfl rfl rfl rfl
    refine ⟨_, pss_cons (ps_set (i := 1) sc__law_rule.nd rfl (.inl rfl) (pe_ix (ixU (K := K)) (pe_lst (pa_cons pe_str (pa_cons pe_str pa_nil))) (pe_f (ok__law_digit (K := K) T) hr passL (pa_cons (lv 0) (pa_cons pe_int pa_nil))) (fun _ _ => rfl)))
      (pss_cons (ps_set (i := 2) sc__law_rule.nd rfl (.inl rfl) (pe_ix (ixU (K := K)) (pe_lst (pa_cons pe_int (pa_cons pe_int (pa_cons (pe_op (opU_add (K := K)) pe_int (pe_f (ok__law_digit (K := K) T) hr passL (pa_cons (lv 0) (pa_cons pe_int pa_nil)))) pa_nil)))) (pe_f (ok__law_digit (K := K) T) hr passL (pa_cons (lv 0) (pa_cons pe_int pa_nil))) (fun _ _ => rfl)))
      (pss_cons (ps_set (i := 3) sc__law_rule.nd rfl (.inl rfl) (pe_ix (ixU (K := K)) (pe_lst (pa_cons pe_int (pa_cons (pe_op opU_pow pe_int pe_int) (pa_cons (pe_op (opU_add (K := K)) pe_int (pe_f (ok__law_digit (K := K) T) hr passL (pa_cons (lv 0) (pa_cons (pe_op opU_pow pe_int pe_int) pa_nil)))) (pa_cons (pe_op (opU_add (K := K)) pe_int (pe_f (ok__law_digit (K := K) T) hr passL (pa_cons (lv 0) (pa_cons pe_int pa_nil)))) pa_nil))))) (pe_f (ok__law_digit (K := K) T) hr passL (pa_cons (lv 0) (pa_cons pe_int pa_nil))) (fun _ _ => rfl)))
      (pss_cons (ps_set (i := 4) sc__law_rule.nd rfl (.inl rfl) (pe_lst pa_nil))
      (pss_cons (ps_for (passes_of rfl) rfl (pi_range1 (by rfl) T.m_range (pa_cons (pe_f (ok__law_digit (K := K) T) hr passL (pa_cons (lv 0) (pa_cons pe_int pa_nil))) pa_nil)) (pg_name (i := 5) sc__law_rule.nd rfl (.inl rfl))
      (pss_cons (ps_set (i := 6) sc__law_rule.nd rfl (.inl rfl) (pe_lst (pa_cons pe_int (pa_cons (pe_f (ok__law_digit (K := K) T) hr passL (pa_cons (lv 0) (pa_cons pe_int pa_nil))) (pa_cons (pe_f (ok__law_digit (K := K) T) hr passL (pa_cons (lv 0) (pa_cons (pe_op (opU_add (K := K)) (pe_op opU_pow pe_int pe_int) pe_int) pa_nil))) (pa_cons (pe_op opU_pow pe_int pe_int) pa_nil))))))
      (pss_one (ps_expr (pe_bm PySem.F.plainAttrs_list PySem.F.slot_list_append PySem.F.type_list_append mt_append (lv 4) (pa_cons (pe_ix (ixU (K := K)) (lv 6) (pe_f (ok__law_digit (K := K) T) hr passL (pa_cons (lv 0) (pa_cons pe_int pa_nil))) (fun _ _ => rfl)) pa_nil))))))
      (pss_cons (ps_set (i := 7) sc__law_rule.nd rfl (.inl rfl) (pe_ix (ixU (K := K)) (pe_lst (pa_cons pe_int (pa_cons pe_int (pa_cons (pe_f (ok__law_digit (K := K) T) hr passL (pa_cons (lv 0) (pa_cons pe_int pa_nil))) (pa_cons (pe_op (opU_add (K := K)) pe_int (pe_f (ok__law_digit (K := K) T) hr passL (pa_cons (lv 0) (pa_cons pe_int pa_nil)))) pa_nil))))) (pe_f (ok__law_digit (K := K) T) hr passL (pa_cons (lv 0) (pa_cons pe_int pa_nil))) (fun _ _ => rfl)))
      (pss_one (ps_ret (pe_tup (pa_cons (lv 1) (pa_cons (lv 2) (pa_cons (lv 3) (pa_cons (pe_callTy (callU_tuple (K := K)) (by rfl) T.m_tuple (by decide +kernel) (pa_cons (lv 4) pa_nil)) (pa_cons (lv 7) pa_nil))))))))))))), ?_⟩
    obtain ⟨a, rfl, s0, wf, k⟩ := h
    have d0 := Dr.refl s0 wf
    refine ⟨line_of (show 2 ≤ 16777216 by decide), fun x1 nx1 => ?_⟩
    have nex1 := st_ne d0.st nx1
    have d1 := d0.new (p := x1) (o := .lst [.str "put", .str "turns"]) nx1 trivial
    have ex1 : (upd H x1 (.lst [.str "put", .str "turns"])) x1 = some (.lst [.str "put", .str "turns"]) := upd_same
    generalize upd H x1 (.lst [.str "put", .str "turns"]) = H1 at d1 ex1  ⊢
    refine ⟨a, 2, rfl, rfl, d1.st, bas_lt (by decide) (by decide), d1.wf, fun r2 p2 q2 g2 l2 n2 => ?_⟩
    have d2 := d1.drawn (q := q2) n2
    replace ex1 := (upd_ne (o := stL p2 q2) nex1).trans ex1
    generalize upd H1 a (stL p2 q2) = H2 at d2 ex1 ⊢
    obtain ⟨v1, hv1, hm1⟩ := at_lt (xs := [V.str "put", V.str "turns"]) g2 (by exact l2)
    refine ⟨_, v1, .inl (.inl (.inl ex1)), hv1, ?_⟩
    have ho : ∃ o : Str, v1 = .str o ∧ (o = "put" ∨ o = "turns") := by
      simp only [List.mem_cons, List.not_mem_nil, or_false] at hm1
      rcases hm1 with rfl | rfl
      · exact ⟨_, rfl, .inl rfl⟩
      · exact ⟨_, rfl, .inr rfl⟩
    obtain ⟨o, rfl, ho⟩ := ho
    refine ⟨a, 20, rfl, rfl, d2.st, bas_lt (by decide) (by decide), d2.wf, fun r3 p3 q3 g3 l3 n3 => ?_⟩
    have d3 := d2.drawn (q := q3) n3
    generalize upd H2 a (stL p3 q3) = H3 at d3  ⊢
    refine ⟨line_of (show 3 ≤ 16777216 by decide), fun x2 nx2 => ?_⟩
    have nex2 := st_ne d3.st nx2
    have d4 := d3.new (p := x2) (o := .lst [.int 1, .int 20, .int (1 + r3)]) nx2 trivial
    have ex2 : (upd H3 x2 (.lst [.int 1, .int 20, .int (1 + r3)])) x2 = some (.lst [.int 1, .int 20, .int (1 + r3)]) := upd_same
    generalize upd H3 x2 (.lst [.int 1, .int 20, .int (1 + r3)]) = H4 at d4 ex2  ⊢
    refine ⟨a, 3, rfl, rfl, d4.st, bas_lt (by decide) (by decide), d4.wf, fun r5 p5 q5 g5 l5 n5 => ?_⟩
    have d5 := d4.drawn (q := q5) n5
    replace ex2 := (upd_ne (o := stL p5 q5) nex2).trans ex2
    generalize upd H4 a (stL p5 q5) = H5 at d5 ex2 ⊢
    obtain ⟨v2, hv2, hm2⟩ := at_lt (xs := [V.int 1, V.int 20, V.int (1 + r3)]) g5 (by exact l5)
    refine ⟨_, v2, .inl (.inl (.inl ex2)), hv2, ?_⟩
    have ht : ∃ t : Int, v2 = .int t ∧ 1 ≤ t ∧ t ≤ 20 := by
      simp only [List.mem_cons, List.not_mem_nil, or_false] at hm2
      rcases hm2 with rfl | rfl | rfl
      · exact ⟨_, rfl, by decide, by decide⟩
      · exact ⟨_, rfl, by decide, by decide⟩
      · exact ⟨_, rfl, by omega, by omega⟩
    obtain ⟨t, rfl, ht⟩ := ht
    refine ⟨⟨by decide, by decide, by decide⟩, ⟨by decide, by decide, by decide⟩, ?_⟩
    refine ⟨a, _, rfl, rfl, d5.st, bas_lt (by decide) (by decide), d5.wf, fun r6 p6 q6 g6 l6 n6 => ?_⟩
    have d6 := d5.drawn (q := q6) n6
    generalize upd H5 a (stL p6 q6) = H6 at d6  ⊢
    have l6' : r6 < 1000000 := l6
    refine ⟨a, 9, rfl, rfl, d6.st, bas_lt (by decide) (by decide), d6.wf, fun r7 p7 q7 g7 l7 n7 => ?_⟩
    have d7 := d6.drawn (q := q7) n7
    generalize upd H6 a (stL p7 q7) = H7 at d7  ⊢
    refine ⟨line_of (show 4 ≤ 16777216 by decide), fun x3 nx3 => ?_⟩
    have nex3 := st_ne d7.st nx3
    have d8 := d7.new (p := x3) (o := .lst [.int 1, .int (10 ^ Int.toNat 6), .int (1 + r6), .int (1 + r7)]) nx3 trivial
    have ex3 : (upd H7 x3 (.lst [.int 1, .int (10 ^ Int.toNat 6), .int (1 + r6), .int (1 + r7)])) x3 = some (.lst [.int 1, .int (10 ^ Int.toNat 6), .int (1 + r6), .int (1 + r7)]) := upd_same
    generalize upd H7 x3 (.lst [.int 1, .int (10 ^ Int.toNat 6), .int (1 + r6), .int (1 + r7)]) = H8 at d8 ex3  ⊢
    refine ⟨a, 4, rfl, rfl, d8.st, bas_lt (by decide) (by decide), d8.wf, fun r9 p9 q9 g9 l9 n9 => ?_⟩
    have d9 := d8.drawn (q := q9) n9
    replace ex3 := (upd_ne (o := stL p9 q9) nex3).trans ex3
    generalize upd H8 a (stL p9 q9) = H9 at d9 ex3 ⊢
    obtain ⟨v3, hv3, hm3⟩ := at_lt (xs := [V.int 1, V.int (10 ^ Int.toNat 6), V.int (1 + r6), V.int (1 + r7)]) g9 (by exact l9)
    refine ⟨_, v3, .inl (.inl (.inl ex3)), hv3, ?_⟩
    have hl : ∃ l : Int, v3 = .int l ∧ 1 ≤ l ∧ l ≤ 1000000 := by
      simp only [List.mem_cons, List.not_mem_nil, or_false] at hm3
      rcases hm3 with rfl | rfl | rfl | rfl
      · exact ⟨_, rfl, by decide, by decide⟩
      · exact ⟨_, rfl, by decide, by decide⟩
      · exact ⟨_, rfl, by omega, by omega⟩
      · exact ⟨_, rfl, by omega, by omega⟩
    obtain ⟨l, rfl, hl⟩ := hl
    refine ⟨line_of (show 0 ≤ 16777216 by decide), fun pl npl => ?_⟩
    have nepl := st_ne d9.st npl
    have d10 := d9.new (p := pl) (o := .lst []) npl trivial
    have epl : (upd H9 pl (.lst [])) pl = some (.lst []) := upd_same
    generalize upd H9 pl (.lst []) = H10 at d10 epl  ⊢
    refine ⟨a, 11, rfl, rfl, d10.st, bas_lt (by decide) (by decide), d10.wf, fun r11 p11 q11 g11 l11 n11 => ?_⟩
    have d11 := d10.drawn (q := q11) n11
    replace epl := (upd_ne (o := stL p11 q11) nepl).trans epl
    generalize upd H10 a (stL p11 q11) = H11 at d11 epl ⊢
    refine ⟨_, rfl, by omega, by omega, ?_⟩
    have fpl := d9.free npl
    refine for_range (lo := 0) (n := r11.toNat) (fun i σ H' => ∃ (ps : List Int) (y1 y2 : Option V), σ = [some (.ref a), some (.str o), some (.int t), some (.int l), some (.ref pl), y1, y2, none] ∧ Dr a H H' ∧ H' pl = some (.lst (ps.map V.int)) ∧ ps.length = i ∧ ∀ p ∈ ps, 0 ≤ p ∧ p ≤ 1000000) ⟨[], _, _, rfl, d11, epl, rfl, by simp⟩ (fun i σ HL0 hi hp => ?_) (fun σ HM0 hp => ?_)
    · obtain ⟨ps, y1, y2, rfl, dL0, epl, hpl, hb⟩ := hp
      refine ⟨a, 9, rfl, rfl, dL0.st, bas_lt (by decide) (by decide), dL0.wf, fun rL1 pL1 qL1 gL1 lL1 nL1 => ?_⟩
      have dL1 := dL0.drawn (q := qL1) nL1
      replace epl := (upd_ne (o := stL pL1 qL1) nepl).trans epl
      generalize upd HL0 a (stL pL1 qL1) = HL1 at dL1 epl ⊢
      refine ⟨⟨by decide, by decide, by decide⟩, ?_⟩
      refine ⟨a, _, rfl, rfl, dL1.st, bas_lt (by decide) (by decide), dL1.wf, fun rL2 pL2 qL2 gL2 lL2 nL2 => ?_⟩
      have dL2 := dL1.drawn (q := qL2) nL2
      replace epl := (upd_ne (o := stL pL2 qL2) nepl).trans epl
      generalize upd HL1 a (stL pL2 qL2) = HL2 at dL2 epl ⊢
      have lL2' : rL2 < 1000001 := lL2
      refine ⟨⟨by decide, by decide, by decide⟩, ?_⟩
      refine ⟨line_of (show 4 ≤ 16777216 by decide), fun x4 nx4 => ?_⟩
      have nex4 := st_ne dL2.st nx4
      have dL3 := dL2.new (p := x4) (o := .lst [.int 0, .int rL1, .int rL2, .int (10 ^ Int.toNat 6)]) nx4 trivial
      replace epl := same_new (o := .lst [.int 0, .int rL1, .int rL2, .int (10 ^ Int.toNat 6)]) nx4 _ _ epl
      have ex4 : (upd HL2 x4 (.lst [.int 0, .int rL1, .int rL2, .int (10 ^ Int.toNat 6)])) x4 = some (.lst [.int 0, .int rL1, .int rL2, .int (10 ^ Int.toNat 6)]) := upd_same
      generalize upd HL2 x4 (.lst [.int 0, .int rL1, .int rL2, .int (10 ^ Int.toNat 6)]) = HL3 at dL3 ex4 epl ⊢
      refine ⟨.inl ⟨rfl, _, .inl (.inl epl)⟩, ?_⟩
      refine ⟨a, 4, rfl, rfl, dL3.st, bas_lt (by decide) (by decide), dL3.wf, fun rL4 pL4 qL4 gL4 lL4 nL4 => ?_⟩
      have dL4 := dL3.drawn (q := qL4) nL4
      replace epl := (upd_ne (o := stL pL4 qL4) nepl).trans epl
      replace ex4 := (upd_ne (o := stL pL4 qL4) nex4).trans ex4
      generalize upd HL3 a (stL pL4 qL4) = HL4 at dL4 epl ex4 ⊢
      obtain ⟨v4, hv4, hm4⟩ := at_lt (xs := [V.int 0, V.int rL1, V.int rL2, V.int (10 ^ Int.toNat 6)]) gL4 (by exact lL4)
      refine ⟨_, v4, .inl (.inl (.inl ex4)), hv4, ?_⟩
      have hv : ∃ n : Int, v4 = .int n ∧ 0 ≤ n ∧ n ≤ 1000000 := by
        simp only [List.mem_cons, List.not_mem_nil, or_false] at hm4
        rcases hm4 with rfl | rfl | rfl | rfl
        · exact ⟨_, rfl, by decide, by decide⟩
        · exact ⟨_, rfl, by omega, by omega⟩
        · exact ⟨_, rfl, by omega, by omega⟩
        · exact ⟨_, rfl, by decide, by decide⟩
      obtain ⟨n, rfl, hn⟩ := hv
      refine ⟨pl, _, _, rfl, rfl, epl, line_lt (by rw [List.length_map]; omega), ps ++ [n], _, _, rfl, dL4.put fpl epl (fun _ z => by cases z) trivial nepl, ?_, by rw [List.length_append, hpl]; rfl, ?_⟩
      · rw [upd_same, List.map_append]
        rfl
      · intro p hp
        rcases List.mem_append.mp hp with h | h
        · exact hb p h
        · rw [List.mem_singleton.mp h]
          exact hn
    · obtain ⟨ps, y1, y2, rfl, dM0, epl, hpl, hb⟩ := hp
      refine ⟨a, 201, rfl, rfl, dM0.st, bas_lt (by decide) (by decide), dM0.wf, fun rM1 pM1 qM1 gM1 lM1 nM1 => ?_⟩
      have dM1 := dM0.drawn (q := qM1) nM1
      replace epl := (upd_ne (o := stL pM1 qM1) nepl).trans epl
      generalize upd HM0 a (stL pM1 qM1) = HM1 at dM1 epl ⊢
      refine ⟨a, 3, rfl, rfl, dM1.st, bas_lt (by decide) (by decide), dM1.wf, fun rM2 pM2 qM2 gM2 lM2 nM2 => ?_⟩
      have dM2 := dM1.drawn (q := qM2) nM2
      replace epl := (upd_ne (o := stL pM2 qM2) nepl).trans epl
      generalize upd HM1 a (stL pM2 qM2) = HM2 at dM2 epl ⊢
      refine ⟨line_of (show 4 ≤ 16777216 by decide), fun x5 nx5 => ?_⟩
      have nex5 := st_ne dM2.st nx5
      have dM3 := dM2.new (p := x5) (o := .lst [.int 0, .int 200, .int rM1, .int (1 + rM2)]) nx5 trivial
      replace epl := same_new (o := .lst [.int 0, .int 200, .int rM1, .int (1 + rM2)]) nx5 _ _ epl
      have ex5 : (upd HM2 x5 (.lst [.int 0, .int 200, .int rM1, .int (1 + rM2)])) x5 = some (.lst [.int 0, .int 200, .int rM1, .int (1 + rM2)]) := upd_same
      generalize upd HM2 x5 (.lst [.int 0, .int 200, .int rM1, .int (1 + rM2)]) = HM3 at dM3 ex5 epl ⊢
      refine ⟨a, 4, rfl, rfl, dM3.st, bas_lt (by decide) (by decide), dM3.wf, fun rM4 pM4 qM4 gM4 lM4 nM4 => ?_⟩
      have dM4 := dM3.drawn (q := qM4) nM4
      replace epl := (upd_ne (o := stL pM4 qM4) nepl).trans epl
      replace ex5 := (upd_ne (o := stL pM4 qM4) nex5).trans ex5
      generalize upd HM3 a (stL pM4 qM4) = HM4 at dM4 epl ex5 ⊢
      obtain ⟨v5, hv5, hm5⟩ := at_lt (xs := [V.int 0, V.int 200, V.int rM1, V.int (1 + rM2)]) gM4 (by exact lM4)
      refine ⟨_, v5, .inl (.inl (.inl ex5)), hv5, ?_⟩
      have hv : ∃ n : Int, v5 = .int n ∧ 0 ≤ n ∧ n ≤ 200 := by
        simp only [List.mem_cons, List.not_mem_nil, or_false] at hm5
        rcases hm5 with rfl | rfl | rfl | rfl
        · exact ⟨_, rfl, by decide, by decide⟩
        · exact ⟨_, rfl, by decide, by decide⟩
        · exact ⟨_, rfl, by omega, by omega⟩
        · exact ⟨_, rfl, by omega, by omega⟩
      obtain ⟨m, rfl, hm⟩ := hv
      refine ⟨_, .inl ⟨.inl (.inl epl), fun q nq => ?_⟩⟩
      have dM5 := dM4.new (p := q) (o := .tup (ps.map V.int)) nq trivial
      have eq : (upd HM4 q (.tup (ps.map V.int))) q = some (.tup (ps.map V.int)) := upd_same
      generalize upd HM4 q (.tup (ps.map V.int)) = HM5 at dM5 eq ⊢
      refine ⟨line_of (show 5 ≤ 16777216 by decide), fun z nz => ?_⟩
      have dM6 := dM5.new (p := z) (o := .tup [.str o, .int t, .int l, .ref q, .int m]) nz trivial
      refine bQ.mk dM6.wf (k _ _ o t l ps m dM6 ⟨z, q, rfl, .inl (.inl upd_same), .inl (.inl (same_new nz _ _ eq))⟩ ⟨ho, ht, hl, ⟨by omega, hb⟩, hm⟩)

theorem ruleT_len {o : Str} {t l : Int} {ps : List Int} {m : Int} (h : RuleOk o t l ps m) : (ruleT o t l ps m).length ≤ 200 ∧ (joinT (ps.map numT) ",").length ≤ 80 ∧ o.length ≤ 5 := by
  obtain ⟨ho, ht, hl, ⟨hp1, hp2⟩, hm⟩ := h
  have hj : (joinT (ps.map numT) ",").length ≤ 80 := joinT_len (fun z hz => by
    obtain ⟨n, hn, rfl⟩ := List.mem_map.mp hz
    have := hp2 n hn
    exact (num_ok (n := n) (by omega) (by omega)).2.1) (by rw [List.length_map]; omega) (by decide +kernel)
  have hol : o.length ≤ 5 := by rcases ho with rfl | rfl <;> decide +kernel
  have n1 := (num_ok (n := t) (by omega) (by omega)).2.1
  have n2 := (num_ok (n := l) (by omega) (by omega)).2.1
  have n3 := (num_ok (n := m) (by omega) (by omega)).2.1
  refine ⟨?_, hj, hol⟩
  unfold ruleT
  have h1 : (Txt.join " " [o, numT t, numT l, joinT (ps.map numT) ",", numT m]).length ≤ (([o, numT t, numT l, joinT (ps.map numT) ",", numT m] : List Str).map (·.length)).sum + 5 * (" " : Str).length := by
    rw [show Txt.join " " [o, numT t, numT l, joinT (ps.map numT) ",", numT m] = PySem.Str.join " " [o, numT t, numT l, joinT (ps.map numT) ",", numT m] from StrLaws.glued_eq_join ..]
    exact StrLaws.join_length_le _ _
  have e : (([o, numT t, numT l, joinT (ps.map numT) ",", numT m] : List Str).map (·.length)).sum = o.length + ((numT t).length + ((numT l).length + ((joinT (ps.map numT) ",").length + ((numT m).length + 0)))) := rfl
  have e2 : (" " : Str).length = 1 := by decide +kernel
  rw [e, e2] at h1
  omega
/-- five words, a blank between -/
theorem join_sum (a b d e f : Str) : a ++ PySem.Str.ofString " " ++ b ++ PySem.Str.ofString " " ++ d ++ PySem.Str.ofString " " ++ e ++ PySem.Str.ofString " " ++ f = Txt.join " " [a, b, d, e, f] := by
  have eb : PySem.Str.ofString " " = SX.S [32] := by decide +kernel
  rw [eb]
  have h : Txt.join (SX.S [32]) [a, b, d, e, f] = SX.S (TL.joinL [32] ([a, b, d, e, f].map (fun w => w.cps.toList))) := join_eq 32 [a, b, d, e, f]
  rw [h]
  have g : ∀ x y : Str, x ++ y = SX.S (x.cps.toList ++ y.cps.toList) := fun x y => by
    conv => lhs; rw [← SX.S_tl x, ← SX.S_tl y]
    exact SX.S_cat _ _
  rw [g, g, g, g, g, g, g, g]
  simp [SX.S, TL.joinL]
theorem rule_shaped {o : Str} {t l : Int} {ps : List Int} {m : Int} (h : RuleOk o t l ps m) : SeqAt.shaped (ruleD o t l ps m) = true := by
  have h1 := shape_ints ps
  have ho : PyData.strOk o = true := by rcases h.1 with rfl | rfl <;> decide +kernel
  unfold SeqAt.shaped at h1 ⊢
  unfold ruleD
  rw [Bool.and_eq_true] at h1
  have h2 : PyData.canLayAll0 (ps.map .int) = true := h1.1
  have h3 : PyData.depthAll (ps.map .int) + 1 ≤ 64 := of_decide_eq_true h1.2
  have h4 : PyData.depthAll (ps.map .int) = 0 := by
    clear h1 h2 h3 h
    induction ps with
    | nil => rfl
    | cons z r ih =>
      show max 0 (PyData.depthAll (r.map .int)) = 0
      rw [ih]
      rfl
  simp [PyData.canLay0, PyData.canLayAll0, PyData.depth, PyData.depthAll, ho, h2, h4]
theorem rule_eqv {o : Str} {t l : Int} {ps : List Int} {m : Int} (h : RuleOk o t l ps m) : PyData.eqv (ruleD o t l ps m) (ruleD o t l ps m) = true := SeqAt.eqv_refl _ (by
  have := rule_shaped h
  unfold SeqAt.shaped at this
  rw [Bool.and_eq_true] at this
  exact this.1)

def NoTupV (K : PySem.W.Frag) (H : Hp) (v : V) : Prop := IsiV K H v "tuple" false
/-- what is no rule, dicts within it too -/
def NoRuleV (K : PySem.W.Frag) (H : Hp) (v : V) : Prop := (∃ d, Dp K H v d ∧ isRuleD d = false) ∨ NoTupV K H v ∨ ∃ p x1 x2 x3 x4 x5 d1 d2 d3 d5, v = .ref p ∧ SqT K H p [x1, x2, x3, x4, x5] ∧ Dp K H x1 d1 ∧ Dp K H x2 d2 ∧ Dp K H x3 d3 ∧ NoTupV K H x4 ∧ Dp K H x5 d5
theorem NoRuleV.keep {K : PySem.W.Frag} {H H' : Hp} {v : V} (s : Same H H') (h : NoRuleV K H v) : NoRuleV K H' v := by
  rcases h with ⟨d, h, e⟩ | h | ⟨p, x1, x2, x3, x4, x5, d1, d2, d3, d5, e, h, h1, h2, h3, h4, h5⟩
  · exact .inl ⟨d, dp_keep s h, e⟩
  · exact .inr (.inl (isi_same s h))
  · exact .inr (.inr ⟨p, x1, x2, x3, x4, x5, d1, d2, d3, d5, e, same_tups s _ _ h, dp_keep s h1, dp_keep s h2, dp_keep s h3, isi_same s h4, dp_keep s h5⟩)

abbrev s_are_pauses : Stmt := topS 28
abbrev N_are_pauses : List Str := ["thing", "pause"]
theorem sc_are_pauses : FnScope N_are_pauses ["thing"] (defScope s_are_pauses) := ⟨rfl, rfl, rfl, by decide +kernel, rfl, by decide +kernel, by decide +kernel⟩
def sp_are_pauses (K : PySem.W.Frag) (c : Ad) : Sp := fun vs H Q E => arg1 (fun v => Wf H ∧ ((∃ d, Dp K H v d ∧ Q (.bl (arePausesD d)) H) ∨ (NoTupV K H v ∧ Q (.bl false) H))) vs
theorem ok_are_pauses {P : Program} {w : World} {K : PySem.W.Frag} {mg : Str → Option Value} {base : Heap} {c : Ad} (T : Txt K mg c) : Ok P w K mg base 2 "are_pauses" ["thing"] (sp_are_pauses K c) := by
  refine okF T.f_are_pauses sc_are_pauses (fun vs H Q E h => ?_) (fun f cdv A outer sh H vs Q E hr h => ?_)
  · obtain ⟨v, rfl, h⟩ := arg1.ex h
    rfl
  · obtain ⟨v, rfl, h⟩ := arg1.ex h
    have tk : Takes (cxOf (L2.CX P w) P w K mg base N_are_pauses "are_pauses" (defScope s_are_pauses) f cdv A outer sh H (bE H E)) (fun cls d _ H' => bE H E cls d H') := takes_of rfl rfl rfl rfl
    refine ⟨_, pss_cons (ps_if (PW.pt (pw_or (pt_not (pt_truthU (K := K) (pe_callB (callU_isi (K := K)) (by rfl) T.m_isinstance (by decide +kernel) (pa_cons (lv 0) (pa_cons (pe_ty "tuple" T.m_tuple) pa_nil))) (by intro _; rfl))) (pw_or1 (pt_cmpU opU_gt (pe_callB (callU_len (K := K)) (by rfl) T.m_len (by decide +kernel) (pa_cons (lv 0) pa_nil)) (pe_g T.g_MOST_PAUSES) (nomark _)))))
      (pss_one (ps_ret pe_bl)) pss_nil)
      (pss_one (ps_ret (pe_callB (callU_all (K := K) rfl) (by rfl) T.m_all (by decide +kernel) (pa_cons (pe_lc (own := [("pause", 1)]) (g := gName 1) rfl sc_are_pauses.nd (pi_tupK (K := K) (lv 0)) (blkOk_by (own := [("pause", 1)]) (N := N_are_pauses) (sc := defScope s_are_pauses) (by decide +kernel)) (fun _ _ _ _ _ => pg_name (i := 1) sc_are_pauses.nd rfl (.inl rfl)) (fun _ _ _ _ _ => pts_nil) (fun _ _ _ _ _ => pe_f (ok_is_whole (K := K) T) hr passL (pa_cons (lv 1) (pa_cons pe_int (pa_cons (pe_g T.g_MOST_SPAN) pa_nil))))) pa_nil)))), ?_⟩
    obtain ⟨wf, h⟩ := h
    rcases h with ⟨d, hd, k⟩ | ⟨h, k⟩
    · refine ⟨_, isk_tup hd, ?_⟩
      cases hd with
      | @tup p xs ds hT ha =>
        refine .inl ⟨xs, .inr hT, ?_⟩
        have hl := dpa_len ha
        refine iteC (p := (10 : Int) < xs.length) (fun h1 => ?_) (fun h1 => ?_)
        · refine bQ.same wf (Same.refl _) ?_
          have e : arePausesD (.tuple ds) = false := by
            show (decide ((ds.length : Int) ≤ 10) && _) = _
            rw [decide_eq_false (by omega), Bool.false_and]
          rw [← e]
          exact k
        · refine ⟨p, rfl, ⟨xs, hT⟩, fun D nD => ?_⟩
          refine lc_map (walk_tup (K := K) (a := p) (xs := xs)) (fun i x => xs[i]? = some x) (fun i H x H' h => h) (fun i => .bl (isWholeB (xs.getD i .non) 0 1000000)) (line_lt (by omega)) (fun o => sqt_keep (fun u e => same_new nD _ _ e) hT) (fun i x acc C hi hx hC => ?_) ?_
          · have e : xs.getD i .non = x := by rw [List.getD_eq_getElem?_getD, hx]; rfl
            rw [e] at hC
            obtain ⟨d, _, hd⟩ := dpa_at ha hx
            exact ⟨rfl, 0, 1000000, rfl, rfl, kn_dp (dp_keep (fun _ _ e => same_new nD _ _ e) hd), wf.new trivial nD, hC⟩
          · refine ⟨xs.map fun x => isWholeB x 0 1000000, .inl (.inl ?_), ?_⟩
            · rw [upd_same, List.map_map, ← R.range_getD xs .non]
              rfl
            · refine bQ.same wf (same_new nD) ?_
              have e : arePausesD (.tuple ds) = (xs.map fun x => isWholeB x 0 1000000).all id := by
                show (decide ((ds.length : Int) ≤ 10) && ds.all fun d => isWholeD d 0 1000000) = _
                rw [decide_eq_true (by omega), Bool.true_and, all_whole ha, List.all_map]
                rfl
              rw [e] at k
              exact k
      | non => exact bQ.same wf (Same.refl _) k
      | bl _ => exact bQ.same wf (Same.refl _) k
      | int _ => exact bQ.same wf (Same.refl _) k
      | str _ => exact bQ.same wf (Same.refl _) k
      | lst _ _ => exact bQ.same wf (Same.refl _) k
    · exact ⟨_, h, bQ.same wf (Same.refl _) k⟩

abbrev s_is_rule : Stmt := topS 29
abbrev N_is_rule : List Str := ["thing", "order", "tries", "longest", "pauses", "most"]
theorem sc_is_rule : FnScope N_is_rule ["thing"] (defScope s_is_rule) := ⟨rfl, rfl, rfl, by decide +kernel, rfl, by decide +kernel, by decide +kernel⟩
def sp_is_rule (K : PySem.W.Frag) (c : Ad) : Sp := fun vs H Q E => arg1 (fun v => Wf H ∧ ((∃ d, Dp K H v d ∧ Q (.bl (isRuleD d)) H) ∨ (NoRuleV K H v ∧ Q (.bl false) H))) vs
theorem ok_is_rule {P : Program} {w : World} {K : PySem.W.Frag} {mg : Str → Option Value} {base : Heap} {c : Ad} (T : Txt K mg c) : Ok P w K mg base 3 "is_rule" ["thing"] (sp_is_rule K c) := by
  refine okF T.f_is_rule sc_is_rule (fun vs H Q E h => ?_) (fun f cdv A outer sh H vs Q E hr h => ?_)
  · obtain ⟨v, rfl, h⟩ := arg1.ex h
    rfl
  · obtain ⟨v, rfl, h⟩ := arg1.ex h
    have tk : Takes (cxOf (L2.CX P w) P w K mg base N_is_rule "is_rule" (defScope s_is_rule) f cdv A outer sh H (bE H E)) (fun cls d _ H' => bE H E cls d H') := takes_of rfl rfl rfl rfl
    obtain ⟨a_ORDERS, gt_ORDERS, st_ORDERS⟩ := T.t_ORDERS
    refine ⟨_, pss_cons (ps_if (PW.pt (pw_or (pt_not (pt_truthU (K := K) (pe_callB (callU_isi (K := K)) (by rfl) T.m_isinstance (by decide +kernel) (pa_cons (lv 0) (pa_cons (pe_ty "tuple" T.m_tuple) pa_nil))) (by intro _; rfl))) (pw_or1 (pt_cmpU (opU_ne (K := K) hr) (pe_callB (callU_len (K := K)) (by rfl) T.m_len (by decide +kernel) (pa_cons (lv 0) pa_nil)) pe_int (nomark _)))))
      (pss_one (ps_ret pe_bl)) pss_nil)
      (pss_cons (ps_asg (lv 0) (pg_tupK (K := K) (n := 5) rfl (pgs_cons (pg_name (i := 1) sc_is_rule.nd rfl (.inl rfl)) (pgs_cons (pg_name (i := 2) sc_is_rule.nd rfl (.inl rfl)) (pgs_cons (pg_name (i := 3) sc_is_rule.nd rfl (.inl rfl)) (pgs_cons (pg_name (i := 4) sc_is_rule.nd rfl (.inl rfl)) (pgs_cons (pg_name (i := 5) sc_is_rule.nd rfl (.inl rfl)) pgs_nil)))))))
      (pss_cons (ps_if (PW.pt (pw_or (pt_not (pt_truthU (K := K) (pe_callB (callU_isi (K := K)) (by rfl) T.m_isinstance (by decide +kernel) (pa_cons (lv 1) (pa_cons (pe_ty "str" T.m_str) pa_nil))) (by intro _; rfl))) (pw_or1 (pt_cmpU (opU_notin (K := K)) (lv 1) (pe_g gt_ORDERS) (by rfl)))))
      (pss_one (ps_ret pe_bl)) pss_nil)
      (pss_cons (ps_if (PW.pt (pw_or (pt_not (pt_truthU (K := K) (pe_f (ok_is_whole (K := K) T) (hr.mono (by decide)) passL (pa_cons (lv 2) (pa_cons pe_int (pa_cons (pe_g T.g_MOST_TRIES) pa_nil)))) (by intro _; rfl))) (pw_or1 (pt_not (pt_truthU (K := K) (pe_f (ok_is_whole (K := K) T) (hr.mono (by decide)) passL (pa_cons (lv 3) (pa_cons pe_int (pa_cons (pe_g T.g_MOST_SPAN) pa_nil)))) (by intro _; rfl))))))
      (pss_one (ps_ret pe_bl)) pss_nil)
      (pss_one (ps_ret (pe_andU (K := K) (pe_f (ok_are_pauses (K := K) T) hr passL (pa_cons (lv 4) pa_nil)) (pe_one (pe_f (ok_is_whole (K := K) T) (hr.mono (by decide)) passL (pa_cons (lv 5) (pa_cons pe_int (pa_cons (pe_g T.g_MOST_OUT) pa_nil))))))))))), ?_⟩
    obtain ⟨wf, h⟩ := h
    have main : ∀ (v : V) (d : PyData), Dp K H v d → Q (.bl (isRuleD d)) H → ∃ b, b = true := fun _ _ _ _ => ⟨true, rfl⟩
    have five' : (∃ d, Dp K H v d ∧ Q (.bl (isRuleD d)) H) ∨ (NoTupV K H v ∧ Q (.bl false) H) ∨ ((∃ p x1 x2 x3 x4 x5 d1 d2 d3 d5, v = .ref p ∧ SqT K H p [x1, x2, x3, x4, x5] ∧ Dp K H x1 d1 ∧ Dp K H x2 d2 ∧ Dp K H x3 d3 ∧ NoTupV K H x4 ∧ Dp K H x5 d5) ∧ Q (.bl false) H) := by
      rcases h with h | ⟨⟨d, h, e⟩ | h | h, k⟩
      · exact .inl h
      · exact .inl ⟨d, h, by rw [e]; exact k⟩
      · exact .inr (.inl ⟨h, k⟩)
      · exact .inr (.inr ⟨h, k⟩)
    rcases five' with ⟨d, hd, k⟩ | ⟨h, k⟩ | ⟨⟨p, x1, x2, x3, x4, x5, d1, d2, d3, d5, rfl, hT, g1, g2, g3, g4, g5⟩, k⟩
    · refine ⟨_, isk_tup hd, ?_⟩
      cases hd with
      | @tup p xs ds hT ha =>
        refine .inl ⟨xs, .inr hT, ?_⟩
        have hl := dpa_len ha
        refine iteB (c := !decide (V.int xs.length = V.int 5)) (fun h1 => ?_) (fun h1 => ?_)
        · refine bQ.same wf (Same.refl _) ?_
          have e : isRuleD (.tuple ds) = false := rule_len fun e => nd_t h1 (by rw [hl, e]; rfl)
          rw [← e]
          exact k
        · have h5 : xs.length = 5 := by
            have := V.int.inj (nd_f h1)
            omega
          obtain ⟨x1, x2, x3, x4, x5, d1, d2, d3, d4, d5, rfl, rfl, g1, g2, g3, g4, g5⟩ := dpa5 ha h5
          refine ⟨p, _, rfl, hT, rfl, _, _, rfl, _, _, rfl, _, _, rfl, _, _, rfl, _, _, rfl, rfl, ?_⟩
          refine ⟨_, isk_str (kn_dp g1), ?_⟩
          cases g1 with
          | str z =>
            refine ⟨_, .inr (st_ORDERS _), rfl, rfl, ?_⟩
            have e00 : inV (.str z) [.str "put", .str "turns"] = isOrderD (.str z) := rfl
            rw [e00]
            refine iteB (c := !isOrderD (.str z)) (fun o => ?_) (fun o => ?_)
            · refine bQ.same wf (Same.refl _) ?_
              have e : isRuleD (.tuple [.str z, d2, d3, d4, d5]) = false := by
                show (isOrderD (.str z) && _ && _) = _
                rw [(by simpa using o : isOrderD (.str z) = false)]
                rfl
              rw [← e]
              exact k
            · have e0 : isOrderD (.str z) = true := by simpa using o
              refine ⟨1, 20, rfl, rfl, kn_dp g2, wf, ?_⟩
              rw [whole_dp g2]
              have e : isRuleD (.tuple [.str z, d2, d3, d4, d5]) = ((isWholeD d2 1 20 && isWholeD d3 1 1000000) && (arePausesD d4 && isWholeD d5 0 200)) := by
                show (isOrderD (.str z) && (isWholeD d2 1 20 && isWholeD d3 1 1000000) && _) = _
                rw [e0, Bool.true_and]
              rw [e] at k
              refine iteB (c := !isWholeD d2 1 20) (fun h2 => ?_) (fun h2 => ?_)
              · have h2' : isWholeD d2 1 20 = false := by simpa using h2
                rw [h2', Bool.false_and, Bool.false_and] at k
                exact bQ.same wf (Same.refl _) k
              · have h2' : isWholeD d2 1 20 = true := by simpa using h2
                rw [h2', Bool.true_and] at k
                refine ⟨1, 1000000, rfl, rfl, kn_dp g3, wf, ?_⟩
                rw [whole_dp g3]
                refine iteB (c := !isWholeD d3 1 1000000) (fun h3 => ?_) (fun h3 => ?_)
                · have h3' : isWholeD d3 1 1000000 = false := by simpa using h3
                  rw [h3', Bool.false_and] at k
                  exact bQ.same wf (Same.refl _) k
                · have h3' : isWholeD d3 1 1000000 = true := by simpa using h3
                  rw [h3', Bool.true_and] at k
                  refine ⟨wf, .inl ⟨d4, g4, ?_⟩⟩
                  refine iteB (c := arePausesD d4) (fun h4 => ?_) (fun h4 => ?_)
                  · rw [h4, Bool.true_and] at k
                    refine ⟨0, 200, rfl, rfl, kn_dp g5, wf, ?_⟩
                    rw [whole_dp g5]
                    exact bQ.same wf (Same.refl _) k
                  · rw [h4, Bool.false_and] at k
                    rw [h4]
                    exact bQ.same wf (Same.refl _) k
          | non => exact bQ.same wf (Same.refl _) k
          | bl _ => exact bQ.same wf (Same.refl _) k
          | int _ => exact bQ.same wf (Same.refl _) k
          | lst _ _ => exact bQ.same wf (Same.refl _) k
          | tup _ _ => exact bQ.same wf (Same.refl _) k
      | non => exact bQ.same wf (Same.refl _) k
      | bl _ => exact bQ.same wf (Same.refl _) k
      | int _ => exact bQ.same wf (Same.refl _) k
      | str _ => exact bQ.same wf (Same.refl _) k
      | lst _ _ => exact bQ.same wf (Same.refl _) k
    · exact ⟨_, h, bQ.same wf (Same.refl _) k⟩
    · have fin : bQ H Q (.bl false) H := bQ.same wf (Same.refl _) k
      have ht : IsiV K H (.ref p) "tuple" true := isi_ty (ty_t hT) (by decide +kernel)
      refine ⟨_, ht, .inl ⟨_, .inr hT, ?_⟩⟩
      refine ⟨p, _, rfl, hT, rfl, _, _, rfl, _, _, rfl, _, _, rfl, _, _, rfl, _, _, rfl, rfl, ?_⟩
      refine ⟨_, isk_str (kn_dp g1), ?_⟩
      cases g1 with
      | str z =>
        refine ⟨_, .inr (st_ORDERS _), rfl, rfl, ?_⟩
        have e00 : inV (.str z) [.str "put", .str "turns"] = isOrderD (.str z) := rfl
        rw [e00]
        refine iteB (c := !isOrderD (.str z)) (fun o => fin) (fun o => ?_)
        refine ⟨1, 20, rfl, rfl, kn_dp g2, wf, ?_⟩
        refine iteB (c := !isWholeB x2 1 20) (fun o => fin) (fun o => ?_)
        refine ⟨1, 1000000, rfl, rfl, kn_dp g3, wf, ?_⟩
        refine iteB (c := !isWholeB x3 1 1000000) (fun o => fin) (fun o => ?_)
        exact ⟨wf, .inr ⟨g4, fin⟩⟩
      | non => exact fin
      | bl _ => exact fin
      | int _ => exact fin
      | lst _ _ => exact fin
      | tup _ _ => exact fin

abbrev s_sure_rule : Stmt := topS 30
abbrev N_sure_rule : List Str := ["rule"]
theorem sc_sure_rule : FnScope N_sure_rule ["rule"] (defScope s_sure_rule) := ⟨rfl, rfl, rfl, by decide +kernel, rfl, by decide +kernel, by decide +kernel⟩
def sp_sure_rule (K : PySem.W.Frag) (c : Ad) : Sp := fun vs H Q E => arg1 (fun v => Wf H ∧ ((∃ o t l ps m, Dp K H v (ruleD o t l ps m) ∧ RuleOk o t l ps m ∧ Q .non H) ∨ (NoRuleV K H v ∧ E (.ref c.NoRule) none H))) vs
theorem ok_sure_rule {P : Program} {w : World} {K : PySem.W.Frag} {mg : Str → Option Value} {base : Heap} {c : Ad} (T : Txt K mg c) : Ok P w K mg base 4 "sure_rule" ["rule"] (sp_sure_rule K c) := by
  refine okF T.f_sure_rule sc_sure_rule (fun vs H Q E h => ?_) (fun f cdv A outer sh H vs Q E hr h => ?_)
  · obtain ⟨v, rfl, h⟩ := arg1.ex h
    rfl
  · obtain ⟨v, rfl, h⟩ := arg1.ex h
    have tk : Takes (cxOf (L2.CX P w) P w K mg base N_sure_rule "sure_rule" (defScope s_sure_rule) f cdv A outer sh H (bE H E)) (fun cls d _ H' => bE H E cls d H') := takes_of rfl rfl rfl rfl
    refine ⟨_, pss_one (ps_if (pt_not (pt_truthU (K := K) (pe_f (ok_is_rule (K := K) T) hr passL (pa_cons (lv 0) pa_nil)) (by intro _; rfl)))
      (pss_one (ps_rai T.x_NoRule tk)) pss_nil), ?_⟩
    obtain ⟨wf, h⟩ := h
    rcases h with ⟨o, t, l, ps, m, hd, ok, k⟩ | ⟨h, k⟩
    · refine ⟨wf, .inl ⟨_, hd, ?_⟩⟩
      rw [rule_ok ok]
      exact bQ.same wf (Same.refl _) k
    · exact ⟨wf, .inr ⟨h, bE.same wf (Same.refl _) k⟩⟩

abbrev s_rule_text : Stmt := topS 31
abbrev N_rule_text : List Str := ["rule", "order", "tries", "longest", "pauses", "most", "pause"]
theorem sc_rule_text : FnScope N_rule_text ["rule"] (defScope s_rule_text) := ⟨rfl, rfl, rfl, by decide +kernel, rfl, by decide +kernel, by decide +kernel⟩
def sp_rule_text (K : PySem.W.Frag) (c : Ad) : Sp := fun vs H Q E => arg1 (fun v => Wf H ∧ ((∃ o t l ps m, Dp K H v (ruleD o t l ps m) ∧ RuleOk o t l ps m ∧ Q (.str (ruleT o t l ps m)) H) ∨ (NoRuleV K H v ∧ E (.ref c.NoRule) none H))) vs
theorem ok_rule_text {P : Program} {w : World} {K : PySem.W.Frag} {mg : Str → Option Value} {base : Heap} {c : Ad} (T : Txt K mg c) : Ok P w K mg base 5 "rule_text" ["rule"] (sp_rule_text K c) := by
  refine okF T.f_rule_text sc_rule_text (fun vs H Q E h => ?_) (fun f cdv A outer sh H vs Q E hr h => ?_)
  · obtain ⟨v, rfl, h⟩ := arg1.ex h
    rfl
  · obtain ⟨v, rfl, h⟩ := arg1.ex h
    have tk : Takes (cxOf (L2.CX P w) P w K mg base N_rule_text "rule_text" (defScope s_rule_text) f cdv A outer sh H (bE H E)) (fun cls d _ H' => bE H E cls d H') := takes_of rfl rfl rfl rfl
    refine ⟨_, pss_cons (ps_expr (pe_fS (ok_sure_rule (K := K) T) hr tk (pa_cons (lv 0) pa_nil)))
      (pss_cons (ps_asg (lv 0) (pg_tupK (K := K) (n := 5) rfl (pgs_cons (pg_name (i := 1) sc_rule_text.nd rfl (.inl rfl)) (pgs_cons (pg_name (i := 2) sc_rule_text.nd rfl (.inl rfl)) (pgs_cons (pg_name (i := 3) sc_rule_text.nd rfl (.inl rfl)) (pgs_cons (pg_name (i := 4) sc_rule_text.nd rfl (.inl rfl)) (pgs_cons (pg_name (i := 5) sc_rule_text.nd rfl (.inl rfl)) pgs_nil)))))))
      (pss_one (ps_ret (pe_join pe_str (pe_lst (pa_cons (lv 1) (pa_cons (pe_callTy callU_str (by rfl) T.m_str (by decide +kernel) (pa_cons (lv 2) pa_nil)) (pa_cons (pe_callTy callU_str (by rfl) T.m_str (by decide +kernel) (pa_cons (lv 3) pa_nil)) (pa_cons (pe_f (ok_joined (K := K) T) (hr.mono (by decide)) passL (pa_cons (pe_lc (own := [("pause", 6)]) (g := gName 6) rfl sc_rule_text.nd (pi_tupK (K := K) (lv 4)) (blkOk_by (own := [("pause", 6)]) (N := N_rule_text) (sc := defScope s_rule_text) (by decide +kernel)) (fun _ _ _ _ _ => pg_name (i := 6) sc_rule_text.nd rfl (.inl rfl)) (fun _ _ _ _ _ => pts_nil) (fun _ _ _ _ _ => pe_callTy callU_str (by rfl) T.m_str (by decide +kernel) (pa_cons (lv 6) pa_nil))) (pa_cons pe_str pa_nil))) (pa_cons (pe_callTy callU_str (by rfl) T.m_str (by decide +kernel) (pa_cons (lv 5) pa_nil)) pa_nil)))))))))), ?_⟩
    obtain ⟨wf, h⟩ := h
    rcases h with ⟨o, t, l, ps, m, hd, ok, k⟩ | ⟨h, k⟩
    · refine ⟨wf, .inl ⟨o, t, l, ps, m, hd, ok, ?_⟩⟩
      obtain ⟨p, q, rfl, hT, hq⟩ := rule_at hd
      refine ⟨p, _, rfl, hT, rfl, _, _, rfl, _, _, rfl, _, _, rfl, _, _, rfl, _, _, rfl, rfl, ?_⟩
      obtain ⟨ho, ht, hl, ⟨hp1, hp2⟩, hm⟩ := ok
      refine ⟨⟨_, rfl⟩, (num_ok (by omega) (by omega)).2.2, (num_ok (by omega) (by omega)).2.2, ?_⟩
      refine ⟨q, rfl, ⟨_, hq⟩, fun D nD => ?_⟩
      have hD : ∀ o, Same H (upd H D o) := fun o => same_new nD
      refine lc_map (walk_tup (K := K) (a := q) (xs := ps.map V.int)) (fun i x => (ps.map V.int)[i]? = some x) (fun i H x H' h => h) (fun i => .str (numT (ps.getD i 0))) (line_lt (by rw [List.length_map]; omega)) (fun o => sqt_keep (fun u z => hD o _ _ z) hq) (fun i x acc C hi hx hC => ?_) ?_
      · rw [List.getElem?_map] at hx
        have hi2 : i < ps.length := by rwa [List.length_map] at hi
        rw [List.getElem?_eq_getElem hi2] at hx
        cases hx
        have e : ps.getD i 0 = ps[i] := by
          rw [List.getD_eq_getElem?_getD, List.getElem?_eq_getElem hi2]
          rfl
        rw [e] at hC
        have := hp2 ps[i] (List.getElem_mem hi2)
        exact ⟨rfl, (num_ok (by omega) (by omega)).2.2, hC⟩
      · have ep : (List.range (ps.map V.int).length).map (fun i => V.str (numT (ps.getD i 0))) = (ps.map numT).map V.str := by
          rw [List.length_map, R.range_getD ps 0 fun n => V.str (numT n), List.map_map]
          rfl
        rw [ep]
        have wD := wf.new (o := .lst ((ps.map numT).map V.str)) trivial nD
        refine ⟨D, ps.map numT, _, rfl, rfl, .inl (.inl upd_same), fun z hz => ?_, by rw [List.length_map]; omega, by decide +kernel, wD, ?_⟩
        · obtain ⟨n, hn, rfl⟩ := List.mem_map.mp hz
          have := hp2 n hn
          have := num_ok (n := n) (by omega) (by omega)
          exact ⟨this.1, by omega⟩
        · refine ⟨(num_ok (by omega) (by omega)).2.2, ?_⟩
          have hj : (joinT (ps.map numT) ",").length ≤ 80 := joinT_len (fun z hz => by
            obtain ⟨n, hn, rfl⟩ := List.mem_map.mp hz
            have := hp2 n hn
            exact (num_ok (n := n) (by omega) (by omega)).2.1) (by rw [List.length_map]; omega) (by decide +kernel)
          have hol : o.length ≤ 5 := by rcases ho with rfl | rfl <;> decide +kernel
          have n1 := (num_ok (n := t) (by omega) (by omega)).2.1
          have n2 := (num_ok (n := l) (by omega) (by omega)).2.1
          have n3 := (num_ok (n := m) (by omega) (by omega)).2.1
          refine ⟨line_of (show 5 ≤ 16777216 by decide), fun y ny => ?_⟩
          refine ⟨_, y, [o, numT t, numT l, joinT (ps.map numT) ",", numT m], rfl, rfl, .inl (.inl (.inl upd_same)), ?_, ?_⟩
          · have e : (([o, numT t, numT l, joinT (ps.map numT) ",", numT m] : List Str).map (·.length)).sum = o.length + ((numT t).length + ((numT l).length + ((joinT (ps.map numT) ",").length + ((numT m).length + 0)))) := rfl
            rw [e]
            have e2 : (PySem.Str.ofString " ").length = 1 := by decide +kernel
            show _ + 5 * (PySem.Str.ofString " ").length ≤ 16777216
            rw [e2]
            omega
          · exact bQ.same wf ((hD _).trans (same_new ny)) k
    · exact ⟨wf, .inr ⟨h, bE.same wf (Same.refl _) k⟩⟩

abbrev s_pause_behind : Stmt := topS 32
abbrev N_pause_behind : List Str := ["rule", "k", "pauses"]
theorem sc_pause_behind : FnScope N_pause_behind ["rule", "k"] (defScope s_pause_behind) := ⟨rfl, rfl, rfl, by decide +kernel, rfl, by decide +kernel, by decide +kernel⟩
def sp_pause_behind (K : PySem.W.Frag) (c : Ad) : Sp := fun vs H Q E => arg2 (fun v u => NoRuleV K H v ∧ Wf H ∧ E (.ref c.NoRule) none H) vs
theorem ok_pause_behind {P : Program} {w : World} {K : PySem.W.Frag} {mg : Str → Option Value} {base : Heap} {c : Ad} (T : Txt K mg c) : Ok P w K mg base 5 "pause_behind" ["rule", "k"] (sp_pause_behind K c) := by
  refine okF T.f_pause_behind sc_pause_behind (fun vs H Q E h => ?_) (fun f cdv A outer sh H vs Q E hr h => ?_)
  · obtain ⟨v, u, rfl, h⟩ := arg2.ex h
    rfl
  · obtain ⟨v, u, rfl, h⟩ := arg2.ex h
    have tk : Takes (cxOf (L2.CX P w) P w K mg base N_pause_behind "pause_behind" (defScope s_pause_behind) f cdv A outer sh H (bE H E)) (fun cls d _ H' => bE H E cls d H') := takes_of rfl rfl rfl rfl
    refine ⟨_, pss_cons (ps_expr (pe_fS (ok_sure_rule (K := K) T) hr tk (pa_cons (lv 0) pa_nil)))
      (pss_cons (ps_if (PW.pt (pw_or (pt_not (pt_truthU (K := K) (pe_f (ok_is_count (K := K) T) (hr.mono (by decide)) passL (pa_cons (lv 1) pa_nil)) (by intro _; rfl))) (pw_or1 (pt_cmpU (opU_eq (K := K) hr) (lv 1) pe_int (nomark _)))))
      (pss_one (ps_rai T.x_NoTry tk)) pss_nil)
      (pss_cons (ps_set (i := 2) sc_pause_behind.nd rfl (.inl rfl) (pe_ix (ixU (K := K)) (lv 0) pe_int (fun _ _ => rfl)))
      (pss_cons (ps_if (pt_cmpU (opU_eq (K := K) hr) (lv 2) (pe_tup pa_nil) (nomark _))
      (pss_one (ps_ret pe_int)) pss_nil)
      (pss_one (ps_ret (pe_ix (ixU (K := K)) (lv 2) (pe_op opU_sub (pe_callB (callU_min2 rfl) (by rfl) T.m_min (by decide +kernel) (pa_cons (lv 1) (pa_cons (pe_callB (callU_len (K := K)) (by rfl) T.m_len (by decide +kernel) (pa_cons (lv 2) pa_nil)) pa_nil))) pe_int) (fun _ _ => rfl))))))), ?_⟩
    obtain ⟨h, wf, k⟩ := h
    exact ⟨wf, .inr ⟨h, bE.same wf (Same.refl _) k⟩⟩

abbrev s_row_line : Stmt := topS 39
abbrev N_row_line : List Str := ["rule"]
theorem sc_row_line : FnScope N_row_line ["rule"] (defScope s_row_line) := ⟨rfl, rfl, rfl, by decide +kernel, rfl, by decide +kernel, by decide +kernel⟩
def sp_row_line (K : PySem.W.Frag) (c : Ad) : Sp := fun vs H Q E => arg1 (fun v => ∃ o t l ps m, Dp K H v (ruleD o t l ps m) ∧ RuleOk o t l ps m ∧ Wf H ∧ Q (.str (PySem.Str.ofString "row " ++ ruleT o t l ps m)) H) vs
theorem ok_row_line {P : Program} {w : World} {K : PySem.W.Frag} {mg : Str → Option Value} {base : Heap} {c : Ad} (T : Txt K mg c) : Ok P w K mg base 6 "row_line" ["rule"] (sp_row_line K c) := by
  refine okF T.f_row_line sc_row_line (fun vs H Q E h => ?_) (fun f cdv A outer sh H vs Q E hr h => ?_)
  · obtain ⟨v, rfl, h⟩ := arg1.ex h
    rfl
  · obtain ⟨v, rfl, h⟩ := arg1.ex h
    have tk : Takes (cxOf (L2.CX P w) P w K mg base N_row_line "row_line" (defScope s_row_line) f cdv A outer sh H (bE H E)) (fun cls d _ H' => bE H E cls d H') := takes_of rfl rfl rfl rfl
    refine ⟨_, pss_one (ps_ret (pe_op (opU_add (K := K)) pe_str (pe_fS (ok_rule_text (K := K) T) hr tk (pa_cons (lv 0) pa_nil)))), ?_⟩
    obtain ⟨o, t, l, ps, m, hd, ok, wf, k⟩ := h
    refine ⟨wf, .inl ⟨o, t, l, ps, m, hd, ok, ?_⟩⟩
    have := (ruleT_len ok).1
    have e4 : (PySem.Str.ofString "row ").length = 4 := by decide +kernel
    exact ⟨line_of (by omega), bQ.same wf (Same.refl _) k⟩

def rowF (r c l g h t w : V) (m e : Int) : List (Str × V) := [("rule", r), ("moment", .int m), ("cards", c), ("loans", l), ("group_names", g), ("house_names", h), ("turned", t), ("ends", .int e), ("written", w)]
/-- a row as it is made -/
structure RowNew (C x : Addr) (v : V) (z : Str) (H H' : Hp) : Prop where
  at_ : ∃ dx a1 a2 a3 a4 a5 a6, H' x = some (.ins C dx (rowF v (.ref a1) (.ref a2) (.ref a3) (.ref a4) (.ref a5) (.ref a6) 0 0)) ∧ H' a1 = some (.dK []) ∧ H' a2 = some (.lst []) ∧ H' a3 = some (.lst []) ∧ H' a4 = some (.lst []) ∧ H' a5 = some (.dK []) ∧ H' a6 = some (.lst [.str z])
  kp : ∀ b o, b ≠ x → H b = some o → H' b = some o
  wf : Wf H'
def KX (x : Addr) (H H' : Hp) : Prop := ∀ b o, b ≠ x → H b = some o → H' b = some o
theorem kx_new {x p : Addr} {o : HO} {H H' : Hp} (n : H' p = none) (k : KX x H H') : KX x H (upd H' p o) := fun b u h e => same_new n _ _ (k b u h e)
theorem kx_put {x : Addr} {o : HO} {H H' : Hp} (k : KX x H H') : KX x H (upd H' x o) := fun b u h e => by
  rw [upd_ne h]
  exact k b u h e
theorem sqt_kx {K : PySem.W.Frag} {H H' : Hp} {x C dx : Addr} {fs : List (Str × V)} (e : H x = some (.ins C dx fs)) (k : KX x H H') : ∀ p ys, SqT K H p ys → SqT K H' p ys := fun p ys h => by
  rcases h with (h | ⟨z, h⟩) | h
  · exact .inl (.inl (k _ _ (ne_of h e (fun z => by cases z)) h))
  · exact .inl (.inr ⟨z, k _ _ (ne_of h e (fun z => by cases z)) h⟩)
  · exact .inr h

abbrev s_Row___init__ : Stmt := inClass (topS 52) 0
abbrev N_Row___init__ : List Str := ["self", "rule"]
theorem sc_Row___init__ : FnScope N_Row___init__ ["self", "rule"] (defScope s_Row___init__) := ⟨rfl, rfl, rfl, by decide +kernel, rfl, by decide +kernel, by decide +kernel⟩
def cr_Row___init__ (c : Ad) (C : Addr) : Prop := C = c.Row
def sp_Row___init__ (K : PySem.W.Frag) (c : Ad) (C : Addr) : Sp := fun vs H Q E => arg2 (fun s v => ∃ x dx, s = .ref x ∧ C = c.Row ∧ H x = some (.ins C dx []) ∧ Wf H ∧ ((∃ o t l ps m, Dp K H v (ruleD o t l ps m) ∧ RuleOk o t l ps m ∧ ∀ H', RowNew C x v (PySem.Str.ofString "row " ++ ruleT o t l ps m) H H' → Q .non H') ∨ (NoRuleV K H v ∧ E (.ref c.NoRule) none H))) vs
theorem ok_Row___init__ {P : Program} {w : World} {K : PySem.W.Frag} {mg : Str → Option Value} {base : Heap} {c : Ad} (T : Txt K mg c) {x : Str} {C : Addr} (hx : x = "Row" ∧ C = c.Row) : OkI P w K mg base 7 x C ["self", "rule"] (sp_Row___init__ K c C) := by
  have F : MkAt K mg x C "Row.__init__" s_Row___init__ ["self", "rule"] ∧ cr_Row___init__ c C := by
    rcases hx with ⟨rfl, rfl⟩
    · exact ⟨T.i_Row, rfl⟩
  obtain ⟨F, hC⟩ := F
  have cl : Cls K C := by
    rcases hC with rfl
    · exact T.o_Row.cl
  have n_rule : NoAttr K C "rule" := by
    rcases hC with rfl
    · exact T.n_Row_rule
  have n_moment : NoAttr K C "moment" := by
    rcases hC with rfl
    · exact T.n_Row_moment
  have n_cards : NoAttr K C "cards" := by
    rcases hC with rfl
    · exact T.n_Row_cards
  have n_loans : NoAttr K C "loans" := by
    rcases hC with rfl
    · exact T.n_Row_loans
  have n_group_names : NoAttr K C "group_names" := by
    rcases hC with rfl
    · exact T.n_Row_group_names
  have n_house_names : NoAttr K C "house_names" := by
    rcases hC with rfl
    · exact T.n_Row_house_names
  have n_turned : NoAttr K C "turned" := by
    rcases hC with rfl
    · exact T.n_Row_turned
  have n_ends : NoAttr K C "ends" := by
    rcases hC with rfl
    · exact T.n_Row_ends
  have n_written : NoAttr K C "written" := by
    rcases hC with rfl
    · exact T.n_Row_written
  refine okI F sc_Row___init__ (fun vs H Q E h => ?_) (fun f cdv A outer sh H vs Q E hr h => ?_)
  · obtain ⟨s, v, rfl, h⟩ := arg2.ex h
    rfl
  · obtain ⟨s, v, rfl, h⟩ := arg2.ex h
    have tk : Takes (cxOf (L2.CX P w) P w K mg base N_Row___init__ "Row.__init__" (defScope s_Row___init__) f cdv A outer sh H (bE H E)) (fun cls d _ H' => bE H E cls d H') := takes_of rfl rfl rfl rfl
    refine ⟨_, pss_cons (ps_expr (pe_fS (ok_sure_rule (K := K) T) (hr.mono (by decide)) tk (pa_cons (lv 1) pa_nil)))
      (pss_cons (ps_fld (lv 0) (lv 1) rfl)
      (pss_cons (ps_fld (lv 0) pe_int rfl)
      (pss_cons (ps_fld (lv 0) pe_dnewK rfl)
      (pss_cons (ps_fld (lv 0) (pe_lst pa_nil) rfl)
      (pss_cons (ps_fld (lv 0) (pe_lst pa_nil) rfl)
      (pss_cons (ps_fld (lv 0) (pe_lst pa_nil) rfl)
      (pss_cons (ps_fld (lv 0) pe_dnewK rfl)
      (pss_cons (ps_fld (lv 0) pe_int rfl)
      (pss_one (ps_fld (lv 0) (pe_lst (pa_cons (pe_f (ok_row_line (K := K) T) hr passL (pa_cons (lv 1) pa_nil)) pa_nil)) rfl)))))))))), ?_⟩
    obtain ⟨x, dx, rfl, eC, hx, wf, h⟩ := h
    rcases h with ⟨o, t, l, ps, m, hd, ok, k⟩ | ⟨h, k⟩
    · refine ⟨wf, .inl ⟨o, t, l, ps, m, hd, ok, ?_⟩⟩
      subst eC
      obtain ⟨p, q, rfl, hT, hq⟩ := rule_at hd
      have kx0 : KX x H H := fun _ _ _ e => e
      refine ⟨x, c.Row, dx, _, rfl, hx, T.o_Row.cl, T.n_Row_rule, by simp, ?_⟩
      have hG1 : upd H x (.ins c.Row dx (putF "rule" (.ref p) [])) = upd H x (.ins c.Row dx [("rule", .ref p)]) := rfl
      rw [hG1]
      have kG1 := kx_put (o := .ins c.Row dx [("rule", .ref p)]) kx0
      have wG1 : Wf (upd H x (.ins c.Row dx [("rule", .ref p)])) := Wf.ins wf hx
      have xG1 : (upd H x (.ins c.Row dx [("rule", .ref p)])) x = some (.ins c.Row dx [("rule", .ref p)]) := upd_same
      clear hG1
      generalize upd H x (.ins c.Row dx [("rule", .ref p)]) = G1 at kG1 wG1 xG1  ⊢
      refine ⟨x, c.Row, dx, _, rfl, xG1, T.o_Row.cl, T.n_Row_moment, by simp, ?_⟩
      have hG2 : upd G1 x (.ins c.Row dx (putF "moment" (.int 0) [("rule", .ref p)])) = upd G1 x (.ins c.Row dx [("rule", .ref p), ("moment", .int 0)]) := rfl
      rw [hG2]
      have kG2 := kx_put (o := .ins c.Row dx [("rule", .ref p), ("moment", .int 0)]) kG1
      have wG2 : Wf (upd G1 x (.ins c.Row dx [("rule", .ref p), ("moment", .int 0)])) := Wf.ins wG1 xG1
      have xG2 : (upd G1 x (.ins c.Row dx [("rule", .ref p), ("moment", .int 0)])) x = some (.ins c.Row dx [("rule", .ref p), ("moment", .int 0)]) := upd_same
      clear hG2
      generalize upd G1 x (.ins c.Row dx [("rule", .ref p), ("moment", .int 0)]) = G2 at kG2 wG2 xG2  ⊢
      refine fun a1 na1 => ?_
      have kG3 := kx_new (o := .dK []) na1 kG2
      have wG3 := wG2.new (o := .dK []) trivial na1
      have xG3 := same_new (o := .dK []) na1 _ _ xG2
      have ea1 : (upd G2 a1 (.dK [])) a1 = some (.dK []) := upd_same
      have xa1_ne : a1 ≠ x := fun z => by rw [z, xG2] at na1; cases na1
      generalize upd G2 a1 (.dK []) = G3 at kG3 wG3 xG3 ea1  ⊢
      refine ⟨x, c.Row, dx, _, rfl, xG3, T.o_Row.cl, T.n_Row_cards, by simp, ?_⟩
      have hG4 : upd G3 x (.ins c.Row dx (putF "cards" (.ref a1) [("rule", .ref p), ("moment", .int 0)])) = upd G3 x (.ins c.Row dx [("rule", .ref p), ("moment", .int 0), ("cards", .ref a1)]) := rfl
      rw [hG4]
      have kG4 := kx_put (o := .ins c.Row dx [("rule", .ref p), ("moment", .int 0), ("cards", .ref a1)]) kG3
      have wG4 : Wf (upd G3 x (.ins c.Row dx [("rule", .ref p), ("moment", .int 0), ("cards", .ref a1)])) := Wf.ins wG3 xG3
      have xG4 : (upd G3 x (.ins c.Row dx [("rule", .ref p), ("moment", .int 0), ("cards", .ref a1)])) x = some (.ins c.Row dx [("rule", .ref p), ("moment", .int 0), ("cards", .ref a1)]) := upd_same
      replace ea1 := (upd_ne (o := .ins c.Row dx [("rule", .ref p), ("moment", .int 0), ("cards", .ref a1)]) xa1_ne).trans ea1
      clear hG4
      generalize upd G3 x (.ins c.Row dx [("rule", .ref p), ("moment", .int 0), ("cards", .ref a1)]) = G4 at kG4 wG4 xG4 ea1 ⊢
      refine ⟨line_of (show 0 ≤ 16777216 by decide), fun a2 na2 => ?_⟩
      have kG5 := kx_new (o := .lst []) na2 kG4
      have wG5 := wG4.new (o := .lst []) trivial na2
      have xG5 := same_new (o := .lst []) na2 _ _ xG4
      have ea2 : (upd G4 a2 (.lst [])) a2 = some (.lst []) := upd_same
      have xa2_ne : a2 ≠ x := fun z => by rw [z, xG4] at na2; cases na2
      replace ea1 := same_new (o := .lst []) na2 _ _ ea1
      generalize upd G4 a2 (.lst []) = G5 at kG5 wG5 xG5 ea2 ea1 ⊢
      refine ⟨x, c.Row, dx, _, rfl, xG5, T.o_Row.cl, T.n_Row_loans, by simp, ?_⟩
      have hG6 : upd G5 x (.ins c.Row dx (putF "loans" (.ref a2) [("rule", .ref p), ("moment", .int 0), ("cards", .ref a1)])) = upd G5 x (.ins c.Row dx [("rule", .ref p), ("moment", .int 0), ("cards", .ref a1), ("loans", .ref a2)]) := rfl
      rw [hG6]
      have kG6 := kx_put (o := .ins c.Row dx [("rule", .ref p), ("moment", .int 0), ("cards", .ref a1), ("loans", .ref a2)]) kG5
      have wG6 : Wf (upd G5 x (.ins c.Row dx [("rule", .ref p), ("moment", .int 0), ("cards", .ref a1), ("loans", .ref a2)])) := Wf.ins wG5 xG5
      have xG6 : (upd G5 x (.ins c.Row dx [("rule", .ref p), ("moment", .int 0), ("cards", .ref a1), ("loans", .ref a2)])) x = some (.ins c.Row dx [("rule", .ref p), ("moment", .int 0), ("cards", .ref a1), ("loans", .ref a2)]) := upd_same
      replace ea1 := (upd_ne (o := .ins c.Row dx [("rule", .ref p), ("moment", .int 0), ("cards", .ref a1), ("loans", .ref a2)]) xa1_ne).trans ea1
      replace ea2 := (upd_ne (o := .ins c.Row dx [("rule", .ref p), ("moment", .int 0), ("cards", .ref a1), ("loans", .ref a2)]) xa2_ne).trans ea2
      clear hG6
      generalize upd G5 x (.ins c.Row dx [("rule", .ref p), ("moment", .int 0), ("cards", .ref a1), ("loans", .ref a2)]) = G6 at kG6 wG6 xG6 ea1 ea2 ⊢
      refine ⟨line_of (show 0 ≤ 16777216 by decide), fun a3 na3 => ?_⟩
      have kG7 := kx_new (o := .lst []) na3 kG6
      have wG7 := wG6.new (o := .lst []) trivial na3
      have xG7 := same_new (o := .lst []) na3 _ _ xG6
      have ea3 : (upd G6 a3 (.lst [])) a3 = some (.lst []) := upd_same
      have xa3_ne : a3 ≠ x := fun z => by rw [z, xG6] at na3; cases na3
      replace ea1 := same_new (o := .lst []) na3 _ _ ea1
      replace ea2 := same_new (o := .lst []) na3 _ _ ea2
      generalize upd G6 a3 (.lst []) = G7 at kG7 wG7 xG7 ea3 ea1 ea2 ⊢
      refine ⟨x, c.Row, dx, _, rfl, xG7, T.o_Row.cl, T.n_Row_group_names, by simp, ?_⟩
      have hG8 : upd G7 x (.ins c.Row dx (putF "group_names" (.ref a3) [("rule", .ref p), ("moment", .int 0), ("cards", .ref a1), ("loans", .ref a2)])) = upd G7 x (.ins c.Row dx [("rule", .ref p), ("moment", .int 0), ("cards", .ref a1), ("loans", .ref a2), ("group_names", .ref a3)]) := rfl
      rw [hG8]
      have kG8 := kx_put (o := .ins c.Row dx [("rule", .ref p), ("moment", .int 0), ("cards", .ref a1), ("loans", .ref a2), ("group_names", .ref a3)]) kG7
      have wG8 : Wf (upd G7 x (.ins c.Row dx [("rule", .ref p), ("moment", .int 0), ("cards", .ref a1), ("loans", .ref a2), ("group_names", .ref a3)])) := Wf.ins wG7 xG7
      have xG8 : (upd G7 x (.ins c.Row dx [("rule", .ref p), ("moment", .int 0), ("cards", .ref a1), ("loans", .ref a2), ("group_names", .ref a3)])) x = some (.ins c.Row dx [("rule", .ref p), ("moment", .int 0), ("cards", .ref a1), ("loans", .ref a2), ("group_names", .ref a3)]) := upd_same
      replace ea1 := (upd_ne (o := .ins c.Row dx [("rule", .ref p), ("moment", .int 0), ("cards", .ref a1), ("loans", .ref a2), ("group_names", .ref a3)]) xa1_ne).trans ea1
      replace ea2 := (upd_ne (o := .ins c.Row dx [("rule", .ref p), ("moment", .int 0), ("cards", .ref a1), ("loans", .ref a2), ("group_names", .ref a3)]) xa2_ne).trans ea2
      replace ea3 := (upd_ne (o := .ins c.Row dx [("rule", .ref p), ("moment", .int 0), ("cards", .ref a1), ("loans", .ref a2), ("group_names", .ref a3)]) xa3_ne).trans ea3
      clear hG8
      generalize upd G7 x (.ins c.Row dx [("rule", .ref p), ("moment", .int 0), ("cards", .ref a1), ("loans", .ref a2), ("group_names", .ref a3)]) = G8 at kG8 wG8 xG8 ea1 ea2 ea3 ⊢
      refine ⟨line_of (show 0 ≤ 16777216 by decide), fun a4 na4 => ?_⟩
      have kG9 := kx_new (o := .lst []) na4 kG8
      have wG9 := wG8.new (o := .lst []) trivial na4
      have xG9 := same_new (o := .lst []) na4 _ _ xG8
      have ea4 : (upd G8 a4 (.lst [])) a4 = some (.lst []) := upd_same
      have xa4_ne : a4 ≠ x := fun z => by rw [z, xG8] at na4; cases na4
      replace ea1 := same_new (o := .lst []) na4 _ _ ea1
      replace ea2 := same_new (o := .lst []) na4 _ _ ea2
      replace ea3 := same_new (o := .lst []) na4 _ _ ea3
      generalize upd G8 a4 (.lst []) = G9 at kG9 wG9 xG9 ea4 ea1 ea2 ea3 ⊢
      refine ⟨x, c.Row, dx, _, rfl, xG9, T.o_Row.cl, T.n_Row_house_names, by simp, ?_⟩
      have hG10 : upd G9 x (.ins c.Row dx (putF "house_names" (.ref a4) [("rule", .ref p), ("moment", .int 0), ("cards", .ref a1), ("loans", .ref a2), ("group_names", .ref a3)])) = upd G9 x (.ins c.Row dx [("rule", .ref p), ("moment", .int 0), ("cards", .ref a1), ("loans", .ref a2), ("group_names", .ref a3), ("house_names", .ref a4)]) := rfl
      rw [hG10]
      have kG10 := kx_put (o := .ins c.Row dx [("rule", .ref p), ("moment", .int 0), ("cards", .ref a1), ("loans", .ref a2), ("group_names", .ref a3), ("house_names", .ref a4)]) kG9
      have wG10 : Wf (upd G9 x (.ins c.Row dx [("rule", .ref p), ("moment", .int 0), ("cards", .ref a1), ("loans", .ref a2), ("group_names", .ref a3), ("house_names", .ref a4)])) := Wf.ins wG9 xG9
      have xG10 : (upd G9 x (.ins c.Row dx [("rule", .ref p), ("moment", .int 0), ("cards", .ref a1), ("loans", .ref a2), ("group_names", .ref a3), ("house_names", .ref a4)])) x = some (.ins c.Row dx [("rule", .ref p), ("moment", .int 0), ("cards", .ref a1), ("loans", .ref a2), ("group_names", .ref a3), ("house_names", .ref a4)]) := upd_same
      replace ea1 := (upd_ne (o := .ins c.Row dx [("rule", .ref p), ("moment", .int 0), ("cards", .ref a1), ("loans", .ref a2), ("group_names", .ref a3), ("house_names", .ref a4)]) xa1_ne).trans ea1
      replace ea2 := (upd_ne (o := .ins c.Row dx [("rule", .ref p), ("moment", .int 0), ("cards", .ref a1), ("loans", .ref a2), ("group_names", .ref a3), ("house_names", .ref a4)]) xa2_ne).trans ea2
      replace ea3 := (upd_ne (o := .ins c.Row dx [("rule", .ref p), ("moment", .int 0), ("cards", .ref a1), ("loans", .ref a2), ("group_names", .ref a3), ("house_names", .ref a4)]) xa3_ne).trans ea3
      replace ea4 := (upd_ne (o := .ins c.Row dx [("rule", .ref p), ("moment", .int 0), ("cards", .ref a1), ("loans", .ref a2), ("group_names", .ref a3), ("house_names", .ref a4)]) xa4_ne).trans ea4
      clear hG10
      generalize upd G9 x (.ins c.Row dx [("rule", .ref p), ("moment", .int 0), ("cards", .ref a1), ("loans", .ref a2), ("group_names", .ref a3), ("house_names", .ref a4)]) = G10 at kG10 wG10 xG10 ea1 ea2 ea3 ea4 ⊢
      refine fun a5 na5 => ?_
      have kG11 := kx_new (o := .dK []) na5 kG10
      have wG11 := wG10.new (o := .dK []) trivial na5
      have xG11 := same_new (o := .dK []) na5 _ _ xG10
      have ea5 : (upd G10 a5 (.dK [])) a5 = some (.dK []) := upd_same
      have xa5_ne : a5 ≠ x := fun z => by rw [z, xG10] at na5; cases na5
      replace ea1 := same_new (o := .dK []) na5 _ _ ea1
      replace ea2 := same_new (o := .dK []) na5 _ _ ea2
      replace ea3 := same_new (o := .dK []) na5 _ _ ea3
      replace ea4 := same_new (o := .dK []) na5 _ _ ea4
      generalize upd G10 a5 (.dK []) = G11 at kG11 wG11 xG11 ea5 ea1 ea2 ea3 ea4 ⊢
      refine ⟨x, c.Row, dx, _, rfl, xG11, T.o_Row.cl, T.n_Row_turned, by simp, ?_⟩
      have hG12 : upd G11 x (.ins c.Row dx (putF "turned" (.ref a5) [("rule", .ref p), ("moment", .int 0), ("cards", .ref a1), ("loans", .ref a2), ("group_names", .ref a3), ("house_names", .ref a4)])) = upd G11 x (.ins c.Row dx [("rule", .ref p), ("moment", .int 0), ("cards", .ref a1), ("loans", .ref a2), ("group_names", .ref a3), ("house_names", .ref a4), ("turned", .ref a5)]) := rfl
      rw [hG12]
      have kG12 := kx_put (o := .ins c.Row dx [("rule", .ref p), ("moment", .int 0), ("cards", .ref a1), ("loans", .ref a2), ("group_names", .ref a3), ("house_names", .ref a4), ("turned", .ref a5)]) kG11
      have wG12 : Wf (upd G11 x (.ins c.Row dx [("rule", .ref p), ("moment", .int 0), ("cards", .ref a1), ("loans", .ref a2), ("group_names", .ref a3), ("house_names", .ref a4), ("turned", .ref a5)])) := Wf.ins wG11 xG11
      have xG12 : (upd G11 x (.ins c.Row dx [("rule", .ref p), ("moment", .int 0), ("cards", .ref a1), ("loans", .ref a2), ("group_names", .ref a3), ("house_names", .ref a4), ("turned", .ref a5)])) x = some (.ins c.Row dx [("rule", .ref p), ("moment", .int 0), ("cards", .ref a1), ("loans", .ref a2), ("group_names", .ref a3), ("house_names", .ref a4), ("turned", .ref a5)]) := upd_same
      replace ea1 := (upd_ne (o := .ins c.Row dx [("rule", .ref p), ("moment", .int 0), ("cards", .ref a1), ("loans", .ref a2), ("group_names", .ref a3), ("house_names", .ref a4), ("turned", .ref a5)]) xa1_ne).trans ea1
      replace ea2 := (upd_ne (o := .ins c.Row dx [("rule", .ref p), ("moment", .int 0), ("cards", .ref a1), ("loans", .ref a2), ("group_names", .ref a3), ("house_names", .ref a4), ("turned", .ref a5)]) xa2_ne).trans ea2
      replace ea3 := (upd_ne (o := .ins c.Row dx [("rule", .ref p), ("moment", .int 0), ("cards", .ref a1), ("loans", .ref a2), ("group_names", .ref a3), ("house_names", .ref a4), ("turned", .ref a5)]) xa3_ne).trans ea3
      replace ea4 := (upd_ne (o := .ins c.Row dx [("rule", .ref p), ("moment", .int 0), ("cards", .ref a1), ("loans", .ref a2), ("group_names", .ref a3), ("house_names", .ref a4), ("turned", .ref a5)]) xa4_ne).trans ea4
      replace ea5 := (upd_ne (o := .ins c.Row dx [("rule", .ref p), ("moment", .int 0), ("cards", .ref a1), ("loans", .ref a2), ("group_names", .ref a3), ("house_names", .ref a4), ("turned", .ref a5)]) xa5_ne).trans ea5
      clear hG12
      generalize upd G11 x (.ins c.Row dx [("rule", .ref p), ("moment", .int 0), ("cards", .ref a1), ("loans", .ref a2), ("group_names", .ref a3), ("house_names", .ref a4), ("turned", .ref a5)]) = G12 at kG12 wG12 xG12 ea1 ea2 ea3 ea4 ea5 ⊢
      refine ⟨x, c.Row, dx, _, rfl, xG12, T.o_Row.cl, T.n_Row_ends, by simp, ?_⟩
      have hG13 : upd G12 x (.ins c.Row dx (putF "ends" (.int 0) [("rule", .ref p), ("moment", .int 0), ("cards", .ref a1), ("loans", .ref a2), ("group_names", .ref a3), ("house_names", .ref a4), ("turned", .ref a5)])) = upd G12 x (.ins c.Row dx [("rule", .ref p), ("moment", .int 0), ("cards", .ref a1), ("loans", .ref a2), ("group_names", .ref a3), ("house_names", .ref a4), ("turned", .ref a5), ("ends", .int 0)]) := rfl
      rw [hG13]
      have kG13 := kx_put (o := .ins c.Row dx [("rule", .ref p), ("moment", .int 0), ("cards", .ref a1), ("loans", .ref a2), ("group_names", .ref a3), ("house_names", .ref a4), ("turned", .ref a5), ("ends", .int 0)]) kG12
      have wG13 : Wf (upd G12 x (.ins c.Row dx [("rule", .ref p), ("moment", .int 0), ("cards", .ref a1), ("loans", .ref a2), ("group_names", .ref a3), ("house_names", .ref a4), ("turned", .ref a5), ("ends", .int 0)])) := Wf.ins wG12 xG12
      have xG13 : (upd G12 x (.ins c.Row dx [("rule", .ref p), ("moment", .int 0), ("cards", .ref a1), ("loans", .ref a2), ("group_names", .ref a3), ("house_names", .ref a4), ("turned", .ref a5), ("ends", .int 0)])) x = some (.ins c.Row dx [("rule", .ref p), ("moment", .int 0), ("cards", .ref a1), ("loans", .ref a2), ("group_names", .ref a3), ("house_names", .ref a4), ("turned", .ref a5), ("ends", .int 0)]) := upd_same
      replace ea1 := (upd_ne (o := .ins c.Row dx [("rule", .ref p), ("moment", .int 0), ("cards", .ref a1), ("loans", .ref a2), ("group_names", .ref a3), ("house_names", .ref a4), ("turned", .ref a5), ("ends", .int 0)]) xa1_ne).trans ea1
      replace ea2 := (upd_ne (o := .ins c.Row dx [("rule", .ref p), ("moment", .int 0), ("cards", .ref a1), ("loans", .ref a2), ("group_names", .ref a3), ("house_names", .ref a4), ("turned", .ref a5), ("ends", .int 0)]) xa2_ne).trans ea2
      replace ea3 := (upd_ne (o := .ins c.Row dx [("rule", .ref p), ("moment", .int 0), ("cards", .ref a1), ("loans", .ref a2), ("group_names", .ref a3), ("house_names", .ref a4), ("turned", .ref a5), ("ends", .int 0)]) xa3_ne).trans ea3
      replace ea4 := (upd_ne (o := .ins c.Row dx [("rule", .ref p), ("moment", .int 0), ("cards", .ref a1), ("loans", .ref a2), ("group_names", .ref a3), ("house_names", .ref a4), ("turned", .ref a5), ("ends", .int 0)]) xa4_ne).trans ea4
      replace ea5 := (upd_ne (o := .ins c.Row dx [("rule", .ref p), ("moment", .int 0), ("cards", .ref a1), ("loans", .ref a2), ("group_names", .ref a3), ("house_names", .ref a4), ("turned", .ref a5), ("ends", .int 0)]) xa5_ne).trans ea5
      clear hG13
      generalize upd G12 x (.ins c.Row dx [("rule", .ref p), ("moment", .int 0), ("cards", .ref a1), ("loans", .ref a2), ("group_names", .ref a3), ("house_names", .ref a4), ("turned", .ref a5), ("ends", .int 0)]) = G13 at kG13 wG13 xG13 ea1 ea2 ea3 ea4 ea5 ⊢
      refine ⟨o, t, l, ps, m, .tup (sqt_kx hx kG13 _ _ hT) (.cons (.str o) (.cons (.int t) (.cons (.int l) (.cons (.tup (sqt_kx hx kG13 _ _ hq) (dp_ints ps)) (.cons (.int m) .nil))))), ok, wG13, ?_⟩
      refine ⟨line_of (show 1 ≤ 16777216 by decide), fun a6 na6 => ?_⟩
      have kG14 := kx_new (o := .lst [.str (PySem.Str.ofString "row " ++ ruleT o t l ps m)]) na6 kG13
      have wG14 := wG13.new (o := .lst [.str (PySem.Str.ofString "row " ++ ruleT o t l ps m)]) trivial na6
      have xG14 := same_new (o := .lst [.str (PySem.Str.ofString "row " ++ ruleT o t l ps m)]) na6 _ _ xG13
      have ea6 : (upd G13 a6 (.lst [.str (PySem.Str.ofString "row " ++ ruleT o t l ps m)])) a6 = some (.lst [.str (PySem.Str.ofString "row " ++ ruleT o t l ps m)]) := upd_same
      have xa6_ne : a6 ≠ x := fun z => by rw [z, xG13] at na6; cases na6
      replace ea1 := same_new (o := .lst [.str (PySem.Str.ofString "row " ++ ruleT o t l ps m)]) na6 _ _ ea1
      replace ea2 := same_new (o := .lst [.str (PySem.Str.ofString "row " ++ ruleT o t l ps m)]) na6 _ _ ea2
      replace ea3 := same_new (o := .lst [.str (PySem.Str.ofString "row " ++ ruleT o t l ps m)]) na6 _ _ ea3
      replace ea4 := same_new (o := .lst [.str (PySem.Str.ofString "row " ++ ruleT o t l ps m)]) na6 _ _ ea4
      replace ea5 := same_new (o := .lst [.str (PySem.Str.ofString "row " ++ ruleT o t l ps m)]) na6 _ _ ea5
      generalize upd G13 a6 (.lst [.str (PySem.Str.ofString "row " ++ ruleT o t l ps m)]) = G14 at kG14 wG14 xG14 ea6 ea1 ea2 ea3 ea4 ea5 ⊢
      refine ⟨x, c.Row, dx, _, rfl, xG14, T.o_Row.cl, T.n_Row_written, by simp, ?_⟩
      have hG15 : upd G14 x (.ins c.Row dx (putF "written" (.ref a6) [("rule", .ref p), ("moment", .int 0), ("cards", .ref a1), ("loans", .ref a2), ("group_names", .ref a3), ("house_names", .ref a4), ("turned", .ref a5), ("ends", .int 0)])) = upd G14 x (.ins c.Row dx [("rule", .ref p), ("moment", .int 0), ("cards", .ref a1), ("loans", .ref a2), ("group_names", .ref a3), ("house_names", .ref a4), ("turned", .ref a5), ("ends", .int 0), ("written", .ref a6)]) := rfl
      rw [hG15]
      have kG15 := kx_put (o := .ins c.Row dx [("rule", .ref p), ("moment", .int 0), ("cards", .ref a1), ("loans", .ref a2), ("group_names", .ref a3), ("house_names", .ref a4), ("turned", .ref a5), ("ends", .int 0), ("written", .ref a6)]) kG14
      have wG15 : Wf (upd G14 x (.ins c.Row dx [("rule", .ref p), ("moment", .int 0), ("cards", .ref a1), ("loans", .ref a2), ("group_names", .ref a3), ("house_names", .ref a4), ("turned", .ref a5), ("ends", .int 0), ("written", .ref a6)])) := Wf.ins wG14 xG14
      have xG15 : (upd G14 x (.ins c.Row dx [("rule", .ref p), ("moment", .int 0), ("cards", .ref a1), ("loans", .ref a2), ("group_names", .ref a3), ("house_names", .ref a4), ("turned", .ref a5), ("ends", .int 0), ("written", .ref a6)])) x = some (.ins c.Row dx [("rule", .ref p), ("moment", .int 0), ("cards", .ref a1), ("loans", .ref a2), ("group_names", .ref a3), ("house_names", .ref a4), ("turned", .ref a5), ("ends", .int 0), ("written", .ref a6)]) := upd_same
      replace ea1 := (upd_ne (o := .ins c.Row dx [("rule", .ref p), ("moment", .int 0), ("cards", .ref a1), ("loans", .ref a2), ("group_names", .ref a3), ("house_names", .ref a4), ("turned", .ref a5), ("ends", .int 0), ("written", .ref a6)]) xa1_ne).trans ea1
      replace ea2 := (upd_ne (o := .ins c.Row dx [("rule", .ref p), ("moment", .int 0), ("cards", .ref a1), ("loans", .ref a2), ("group_names", .ref a3), ("house_names", .ref a4), ("turned", .ref a5), ("ends", .int 0), ("written", .ref a6)]) xa2_ne).trans ea2
      replace ea3 := (upd_ne (o := .ins c.Row dx [("rule", .ref p), ("moment", .int 0), ("cards", .ref a1), ("loans", .ref a2), ("group_names", .ref a3), ("house_names", .ref a4), ("turned", .ref a5), ("ends", .int 0), ("written", .ref a6)]) xa3_ne).trans ea3
      replace ea4 := (upd_ne (o := .ins c.Row dx [("rule", .ref p), ("moment", .int 0), ("cards", .ref a1), ("loans", .ref a2), ("group_names", .ref a3), ("house_names", .ref a4), ("turned", .ref a5), ("ends", .int 0), ("written", .ref a6)]) xa4_ne).trans ea4
      replace ea5 := (upd_ne (o := .ins c.Row dx [("rule", .ref p), ("moment", .int 0), ("cards", .ref a1), ("loans", .ref a2), ("group_names", .ref a3), ("house_names", .ref a4), ("turned", .ref a5), ("ends", .int 0), ("written", .ref a6)]) xa5_ne).trans ea5
      replace ea6 := (upd_ne (o := .ins c.Row dx [("rule", .ref p), ("moment", .int 0), ("cards", .ref a1), ("loans", .ref a2), ("group_names", .ref a3), ("house_names", .ref a4), ("turned", .ref a5), ("ends", .int 0), ("written", .ref a6)]) xa6_ne).trans ea6
      exact bQ.mk wG15 (k _ ⟨⟨dx, a1, a2, a3, a4, a5, a6, xG15, ea1, ea2, ea3, ea4, ea5, ea6⟩, kG15, wG15⟩)
    · exact ⟨wf, .inr ⟨h, bE.same wf (Same.refl _) k⟩⟩

theorem ne_of_some {H : Hp} {F y : Addr} {o : HO} (e : H F = some o) (n : H y = none) : y ≠ F := fun z => by
  rw [z, e] at n
  cases n

abbrev s__law_no_number : Stmt := topS 59
abbrev N__law_no_number : List Str := ["_law_state_here", "_law_low", "_law_high", "_law_odd"]
theorem sc__law_no_number : FnScope N__law_no_number ["_law_state_here", "_law_low", "_law_high"] (defScope s__law_no_number) := ⟨rfl, rfl, rfl, by decide +kernel, rfl, by decide +kernel, by decide +kernel⟩
def sp__law_no_number (K : PySem.W.Frag) (c : Ad) : Sp := fun vs H Q E => arg3 (fun s lo hi => ∃ a F oF x y, s = .ref a ∧ lo = .int x ∧ hi = .int y ∧ 0 ≤ x ∧ x ≤ 1000 ∧ 0 ≤ y ∧ H F = some (.lst oF) ∧ F ≠ a ∧ St2 H a ∧ Wf H ∧ ∀ v d H', Dr a H H' → Dp K (G2 F a H') v d → isWholeD d x y = false → Q v H') vs
theorem ok__law_no_number {P : Program} {w : World} {K : PySem.W.Frag} {mg : Str → Option Value} {base : Heap} {c : Ad} (T : Txt K mg c) : Ok P w K mg base 3 "_law_no_number" ["_law_state_here", "_law_low", "_law_high"] (sp__law_no_number K c) := by
  refine okF T.f__law_no_number sc__law_no_number (fun vs H Q E h => ?_) (fun f cdv A outer sh H vs Q E hr h => ?_)
  · obtain ⟨s, lo, hi, rfl, h⟩ := arg3.ex h
    rfl
  · obtain ⟨s, lo, hi, rfl, h⟩ := arg3.ex h
    have tk : Takes (cxOf (L2.CX P w) P w K mg base N__law_no_number "_law_no_number" (defScope s__law_no_number) f cdv A outer sh H (bE H E)) (fun cls d _ H' => bE H E cls d H') := takes_of rfl rfl rfl rfl
    refine ⟨_, pss_cons (ps_set (i := 3) sc__law_no_number.nd rfl (.inl rfl) (pe_lst (pa_cons (pe_op opU_sub (lv 1) pe_int) (pa_cons (pe_op (opU_add (K := K)) (lv 2) pe_int) (pa_cons pe_bl (pa_cons pe_bl (pa_cons pe_non (pa_cons (pe_callTy callU_str (by rfl) T.m_str (by decide +kernel) (pa_cons (lv 1) pa_nil)) (pa_cons (pe_un unU_neg (pe_op opU_pow pe_int pe_int)) (pa_cons (pe_op (opU_add (K := K)) (pe_op (opU_add (K := K)) (lv 2) pe_int) (pe_f (ok__law_digit (K := K) T) hr passL (pa_cons (lv 0) (pa_cons (pe_op opU_pow pe_int pe_int) pa_nil)))) (pa_cons (pe_lst (pa_cons (lv 1) pa_nil)) pa_nil)))))))))))
      (pss_one (ps_ret (pe_ix (ixU (K := K)) (lv 3) (pe_f (ok__law_digit (K := K) T) hr passL (pa_cons (lv 0) (pa_cons (pe_callB (callU_len (K := K)) (by rfl) T.m_len (by decide +kernel) (pa_cons (lv 3) pa_nil)) pa_nil))) (fun _ _ => rfl)))), ?_⟩
    obtain ⟨a, F, oF, x, y, rfl, rfl, rfl, x0, x1, y0, hF, nF, s0, wf, k⟩ := h
    have d0 := Dr.refl s0 wf
    refine ⟨(num_ok (n := x) x0 (by omega)).2.2, ⟨by decide, by decide, by decide⟩, ⟨by decide, by decide, by decide⟩, ?_⟩
    refine ⟨a, _, rfl, rfl, d0.st, bas_lt (by decide) (by decide), d0.wf, fun r1 p1 q1 g1 l1 n1 => ?_⟩
    have d1 := d0.drawn (q := q1) n1
    replace hF := (upd_ne (o := stL p1 q1) nF).trans hF
    generalize upd H a (stL p1 q1) = H1 at d1 hF ⊢
    have hF1 := hF
    refine ⟨line_of (show 1 ≤ 16777216 by decide), fun y1 ny1 => ?_⟩
    have ney1 := st_ne d1.st ny1
    have d2 := d1.new (p := y1) (o := .lst [.int x]) ny1 trivial
    replace hF := same_new (o := .lst [.int x]) ny1 _ _ hF
    have ey1 : (upd H1 y1 (.lst [.int x])) y1 = some (.lst [.int x]) := upd_same
    generalize upd H1 y1 (.lst [.int x]) = H2 at d2 ey1 hF ⊢
    have ny1F : y1 ≠ F := ne_of_some hF1 ny1
    refine ⟨line_of (show 9 ≤ 16777216 by decide), fun y2 ny2 => ?_⟩
    have ney2 := st_ne d2.st ny2
    have d3 := d2.new (p := y2) (o := .lst [.int (x - 1), .int (y + 1), .bl true, .bl false, .non, .str (numT x), .int (-(10 ^ Int.toNat 30)), .int (y + 1 + r1), .ref y1]) ny2 trivial
    replace ey1 := same_new (o := .lst [.int (x - 1), .int (y + 1), .bl true, .bl false, .non, .str (numT x), .int (-(10 ^ Int.toNat 30)), .int (y + 1 + r1), .ref y1]) ny2 _ _ ey1
    replace hF := same_new (o := .lst [.int (x - 1), .int (y + 1), .bl true, .bl false, .non, .str (numT x), .int (-(10 ^ Int.toNat 30)), .int (y + 1 + r1), .ref y1]) ny2 _ _ hF
    have ey2 : (upd H2 y2 (.lst [.int (x - 1), .int (y + 1), .bl true, .bl false, .non, .str (numT x), .int (-(10 ^ Int.toNat 30)), .int (y + 1 + r1), .ref y1])) y2 = some (.lst [.int (x - 1), .int (y + 1), .bl true, .bl false, .non, .str (numT x), .int (-(10 ^ Int.toNat 30)), .int (y + 1 + r1), .ref y1]) := upd_same
    generalize upd H2 y2 (.lst [.int (x - 1), .int (y + 1), .bl true, .bl false, .non, .str (numT x), .int (-(10 ^ Int.toNat 30)), .int (y + 1 + r1), .ref y1]) = H3 at d3 ey2 ey1 hF ⊢
    refine .inl ⟨_, .inl (.inl (.inl ey2)), ?_⟩
    refine ⟨a, 9, rfl, rfl, d3.st, bas_lt (by decide) (by decide), d3.wf, fun r4 p4 q4 g4 l4 n4 => ?_⟩
    have d4 := d3.drawn (q := q4) n4
    replace ey1 := (upd_ne (o := stL p4 q4) ney1).trans ey1
    replace ey2 := (upd_ne (o := stL p4 q4) ney2).trans ey2
    replace hF := (upd_ne (o := stL p4 q4) nF).trans hF
    generalize upd H3 a (stL p4 q4) = H4 at d4 ey1 ey2 hF ⊢
    obtain ⟨v, hv, mv⟩ := at_lt (xs := [V.int (x - 1), .int (y + 1), .bl true, .bl false, .non, .str (numT x), .int (-(10 ^ Int.toNat 30)), .int (y + 1 + r1), .ref y1]) g4 (by exact l4)
    refine ⟨_, v, .inl (.inl (.inl ey2)), hv, ?_⟩
    have out : ∀ {n : Int}, n < x ∨ y < n → isWholeD (.int n) x y = false := fun {n} h => by
      show (decide (x ≤ n) && decide (n ≤ y)) = false
      rw [Bool.and_eq_false_iff]
      rcases h with h | h
      · left
        exact decide_eq_false (by omega)
      · right
        exact decide_eq_false (by omega)
    have fin : ∀ d, Dp K (G2 F a H4) v d → isWholeD d x y = false → bQ H Q v H4 := fun d h1 h2 => bQ.mk d4.wf (k v d H4 d4 h1 h2)
    have e30 : (0 : Int) < 10 ^ Int.toNat 30 := by decide
    simp only [List.mem_cons, List.not_mem_nil, or_false] at mv
    rcases mv with rfl | rfl | rfl | rfl | rfl | rfl | rfl | rfl | rfl
    · exact fin _ (.int _) (out (.inl (by omega)))
    · exact fin _ (.int _) (out (.inr (by omega)))
    · exact fin _ (.bl _) rfl
    · exact fin _ (.bl _) rfl
    · exact fin _ .non rfl
    · exact fin _ (.str _) rfl
    · exact fin _ (.int _) (out (.inl (by omega)))
    · exact fin _ (.int _) (out (.inr (by omega)))
    · exact fin (.list [.int x]) (.lst (.inl (.inl (G2.at ny1F ney1 ey1))) (.cons (.int _) .nil)) rfl

abbrev s__law_no_pauses : Stmt := topS 60
abbrev N__law_no_pauses : List Str := ["_law_state_here", "_law_pauses", "_law_way", "_law_at", "_law_some"]
theorem sc__law_no_pauses : FnScope N__law_no_pauses ["_law_state_here", "_law_pauses"] (defScope s__law_no_pauses) := ⟨rfl, rfl, rfl, by decide +kernel, rfl, by decide +kernel, by decide +kernel⟩
def sp__law_no_pauses (K : PySem.W.Frag) (c : Ad) : Sp := fun vs H Q E => arg2 (fun s v => ∃ (a F : Addr) (oF : List V) (q : Addr) (ps : List Int), s = .ref a ∧ v = .ref q ∧ SqT K H q (ps.map V.int) ∧ ps.length ≤ 10 ∧ H F = some (.lst oF) ∧ F ≠ a ∧ St2 H a ∧ Wf H ∧ ∀ v H', Dr a H H' → ((∃ d, Dp K (G2 F a H') v d ∧ arePausesD d = false) ∨ NoTupV K (G2 F a H') v) → Q v H') vs
theorem ok__law_no_pauses {P : Program} {w : World} {K : PySem.W.Frag} {mg : Str → Option Value} {base : Heap} {c : Ad} (T : Txt K mg c) : Ok P w K mg base 4 "_law_no_pauses" ["_law_state_here", "_law_pauses"] (sp__law_no_pauses K c) := by
  refine okF T.f__law_no_pauses sc__law_no_pauses (fun vs H Q E h => ?_) (fun f cdv A outer sh H vs Q E hr h => ?_)
  · obtain ⟨s, v, rfl, h⟩ := arg2.ex h
    rfl
  · obtain ⟨s, v, rfl, h⟩ := arg2.ex h
    have tk : Takes (cxOf (L2.CX P w) P w K mg base N__law_no_pauses "_law_no_pauses" (defScope s__law_no_pauses) f cdv A outer sh H (bE H E)) (fun cls d _ H' => bE H E cls d H') := takes_of rfl rfl rfl rfl
    refine ⟨_, pss_cons (ps_set (i := 2) sc__law_no_pauses.nd rfl (.inl rfl) (pe_f (ok__law_digit (K := K) T) (hr.mono (by decide)) passL (pa_cons (lv 0) (pa_cons pe_int pa_nil))))
      (pss_cons (ps_if (pt_cmpU opU_lt (lv 2) pe_int (nomark _))
      (pss_cons (ps_set (i := 3) sc__law_no_pauses.nd rfl (.inl rfl) (pe_f (ok__law_digit (K := K) T) (hr.mono (by decide)) passL (pa_cons (lv 0) (pa_cons (pe_callB (callU_min2 rfl) (by rfl) T.m_min (by decide +kernel) (pa_cons pe_int (pa_cons (pe_op (opU_add (K := K)) (pe_callB (callU_len (K := K)) (by rfl) T.m_len (by decide +kernel) (pa_cons (lv 1) pa_nil)) pe_int) pa_nil))) pa_nil))))
      (pss_one (ps_ret (pe_slice (slA (K := K)) (pe_op (opA_add (K := K)) (pe_op (opA_add (K := K)) (pe_slice (slA (K := K)) (lv 1) po_none (po_someU (lv 3))) (pe_tup (pa_cons (pe_f (ok__law_no_number (K := K) T) hr passL (pa_cons (lv 0) (pa_cons pe_int (pa_cons (pe_op opU_pow pe_int pe_int) pa_nil)))) pa_nil))) (pe_slice (slA (K := K)) (lv 1) (po_someU (pe_op (opU_add (K := K)) (lv 3) pe_int)) po_none)) po_none (po_someU pe_int))))) pss_nil)
      (pss_cons (ps_set (i := 4) sc__law_no_pauses.nd rfl (.inl rfl) (pe_lst (pa_cons (pe_callTy (callU_list (K := K) rfl) (by rfl) T.m_list (by decide +kernel) (pa_cons (lv 1) pa_nil)) (pa_cons (pe_slice (slA (K := K)) (pe_op (opA_add (K := K)) (lv 1) (pe_op (opT_mul (K := K)) (pe_tup (pa_cons pe_int pa_nil)) pe_int)) po_none (po_someU pe_int)) (pa_cons pe_non (pa_cons pe_int (pa_cons pe_str (pa_cons pe_str (pa_cons (pe_tup (pa_cons (lv 1) pa_nil)) (pa_cons pe_dnewK pa_nil))))))))))
      (pss_one (ps_ret (pe_ix (ixU (K := K)) (lv 4) (pe_f (ok__law_digit (K := K) T) (hr.mono (by decide)) passL (pa_cons (lv 0) (pa_cons (pe_callB (callU_len (K := K)) (by rfl) T.m_len (by decide +kernel) (pa_cons (lv 4) pa_nil)) pa_nil))) (fun _ _ => rfl)))))), ?_⟩
    obtain ⟨a, F, oF, q, ps, rfl, rfl, hq, hp, hF, nF, s0, wf, k⟩ := h
    have d0 := Dr.refl s0 wf
    have ep : ((ps.map V.int).length : Int) = ps.length := by rw [List.length_map]
    refine ⟨a, 6, rfl, rfl, d0.st, bas_lt (by decide) (by decide), d0.wf, fun r1 p1 q1 g1 l1 n1 => ?_⟩
    have d1 := d0.drawn (q := q1) n1
    replace hF := (upd_ne (o := stL p1 q1) nF).trans hF
    generalize upd H a (stL p1 q1) = H1 at d1 hF ⊢
    have hq0 := hq
    replace hq := d1.tups s0 _ _ hq0
    refine iteC (p := r1 < 3) (fun h1 => ?_) (fun h1 => ?_)
    · refine .inl ⟨_, .inr hq, ?_⟩
      refine ⟨a, _, rfl, rfl, d1.st, bas_lt (by split <;> omega) (by split <;> omega), d1.wf, fun r2 p2 q2 g2 l2 n2 => ?_⟩
      have d2 := d1.drawn (q := q2) n2
      replace hF := (upd_ne (o := stL p2 q2) nF).trans hF
      generalize upd H1 a (stL p2 q2) = H2 at d2 hF ⊢
      have l2' : r2 < 10 := by split at l2 <;> omega
      replace hq := d2.tups s0 _ _ hq0
      refine ⟨q, _, rfl, hq, fun p1 H3 h1 sm1 w1 => ?_⟩
      have d3 := d2.trans (Dr.same' sm1 d2.st (w1 d2.wf))
      replace hF := sm1 _ _ hF
      replace hq := same_tups sm1 _ _ hq
      have e6 : (10 : Int) ^ Int.toNat 6 = 1000000 := by decide
      refine ⟨⟨by decide, by decide, by decide⟩, a, F, oF, 0, 1000000, rfl, rfl, congrArg V.int e6, by decide, by decide, by decide, hF, nF, d3.st, d3.wf, fun v d H4 dr dp no => ?_⟩
      have d4 := d3.trans dr
      replace hF := dr.kp _ _ nF hF
      replace hq := dr.tups d3.st _ _ hq
      replace h1 := dr.tups d3.st _ _ h1
      refine ⟨line_of (show 1 ≤ 16777216 by decide), fun t nt => ?_⟩
      have sm5 := same_new (o := .tup [v]) nt
      have d5 := d4.new (p := t) (o := .tup [v]) nt trivial
      have et : (upd H4 t (.tup [v])) t = some (.tup [v]) := upd_same
      replace hF := sm5 _ _ hF
      replace hq := same_tups sm5 _ _ hq
      replace h1 := same_tups sm5 _ _ h1
      replace dp := dp_keep (G2.same sm5) dp
      generalize upd H4 t (.tup [v]) = H5 at d5 et hF hq h1 dp ⊢
      have hc1 : (cutV (ps.map V.int) none (some r2)).length ≤ r2.toNat := by
        rw [cutV_to g2, List.length_take]
        omega
      obtain ⟨u1, hu1, lu1⟩ := cut_ints ps none (some r2)
      obtain ⟨u2, hu2, lu2⟩ := cut_ints ps (some (r2 + 1)) none
      rw [hu1] at h1 hc1
      rw [List.length_map] at hc1
      refine ⟨p1, t, _, _, rfl, rfl, h1, .inl (.inl et), line_of (by rw [List.length_map]; show _ + 1 ≤ _; omega), fun p2 H6 h2 sm6 w6 => ?_⟩
      have d6 := d5.trans (Dr.same' sm6 d5.st (w6 d5.wf))
      replace hF := sm6 _ _ hF
      replace hq := same_tups sm6 _ _ hq
      replace dp := dp_keep (G2.same sm6) dp
      refine ⟨q, _, rfl, hq, fun p3 H7 h3 sm7 w7 => ?_⟩
      have d7 := d6.trans (Dr.same' sm7 d6.st (w7 d6.wf))
      replace hF := sm7 _ _ hF
      replace h2 := same_tups sm7 _ _ h2
      replace dp := dp_keep (G2.same sm7) dp
      rw [hu2] at h3
      refine ⟨p2, p3, _, _, rfl, rfl, h2, h3, line_of (by rw [List.length_append, List.length_map, List.length_map]; show _ + 1 + _ ≤ _; omega), fun p4 H8 h4 sm8 w8 => ?_⟩
      have d8 := d7.trans (Dr.same' sm8 d7.st (w8 d7.wf))
      replace hF := sm8 _ _ hF
      replace dp := dp_keep (G2.same sm8) dp
      refine ⟨p4, _, rfl, h4, fun p5 H9 h5 sm9 w9 => ?_⟩
      have d9 := d8.trans (Dr.same' sm9 d8.st (w9 d8.wf))
      replace hF := sm9 _ _ hF
      replace dp := dp_keep (G2.same sm9) dp
      refine bQ.mk d9.wf (k _ _ d9 (.inl ⟨.tuple (((u1.map PyData.int ++ [d]) ++ u2.map PyData.int).take 10), ?_, ?_⟩))
      · rw [cutV_to (by decide)] at h5
        exact .tup (G2.sqt hF d9.st _ _ h5) (dpa_take _ (dpa_app (dpa_app (dp_ints u1) (.cons dp .nil)) (dp_ints u2)))
      · show (decide _ && List.all _ _) = false
        rw [Bool.and_eq_false_iff]
        right
        rw [List.all_eq_false]
        refine ⟨d, ?_, by rw [no]; exact Bool.false_ne_true⟩
        rw [List.mem_take_iff_getElem]
        refine ⟨u1.length, ?_, ?_⟩
        · simp
          omega
        · simp
    · refine .inl ⟨_, .inr hq, fun y1 ny1 => ?_⟩
      have hF1 := hF
      have ny1F : y1 ≠ F := ne_of_some hF1 ny1
      have ney1 := st_ne d1.st ny1
      have d2 := d1.new (p := y1) (o := .lst (ps.map V.int)) ny1 trivial
      replace hF := same_new (o := .lst (ps.map V.int)) ny1 _ _ hF
      have ey1 : (upd H1 y1 (.lst (ps.map V.int))) y1 = some (.lst (ps.map V.int)) := upd_same
      generalize upd H1 y1 (.lst (ps.map V.int)) = H2 at d2 ey1 hF ⊢
      refine ⟨line_of (show 1 ≤ 16777216 by decide), fun t1 nt1 => ?_⟩
      have net1 := st_ne d2.st nt1
      have d3 := d2.new (p := t1) (o := .tup [.int 0]) nt1 trivial
      replace hF := same_new (o := .tup [.int 0]) nt1 _ _ hF
      replace ey1 := same_new (o := .tup [.int 0]) nt1 _ _ ey1
      have et1 : (upd H2 t1 (.tup [.int 0])) t1 = some (.tup [.int 0]) := upd_same
      generalize upd H2 t1 (.tup [.int 0]) = H3 at d3 et1 hF ey1 ⊢
      refine ⟨t1, 11, _, rfl, rfl, .inl (.inl et1), by simp, by decide, by decide, by simp, fun t2 nt2 => ?_⟩
      have net2 := st_ne d3.st nt2
      have d4 := d3.new (p := t2) (o := .tup (List.replicate (11 : Int).toNat [V.int 0]).flatten) nt2 trivial
      replace hF := same_new (o := .tup (List.replicate (11 : Int).toNat [V.int 0]).flatten) nt2 _ _ hF
      replace ey1 := same_new (o := .tup (List.replicate (11 : Int).toNat [V.int 0]).flatten) nt2 _ _ ey1
      have et2 : (upd H3 t2 (.tup (List.replicate (11 : Int).toNat [V.int 0]).flatten)) t2 = some (.tup (List.replicate (11 : Int).toNat [V.int 0]).flatten) := upd_same
      generalize upd H3 t2 (.tup (List.replicate (11 : Int).toNat [V.int 0]).flatten) = H4 at d4 et2 hF ey1 ⊢
      have hg : (List.replicate (11 : Int).toNat [V.int 0]).flatten = (List.replicate 11 (0 : Int)).map V.int := rfl
      rw [hg] at et2
      refine ⟨q, t2, _, _, rfl, rfl, d4.tups s0 _ _ hq0, .inl (.inl et2), line_of (by rw [List.length_map, List.length_map, List.length_replicate]; omega), fun p3 H5 h3 sm5 w5 => ?_⟩
      have d5 := d4.trans (Dr.same' sm5 d4.st (w5 d4.wf))
      replace hF := sm5 _ _ hF
      replace ey1 := sm5 _ _ ey1
      rw [← List.map_append] at h3
      refine ⟨p3, _, rfl, h3, fun p4 H6 h4 sm6 w6 => ?_⟩
      have D6 := d5.trans (Dr.same' sm6 d5.st (w6 d5.wf))
      have d6 := Dr.refl D6.st D6.wf
      replace hF := sm6 _ _ hF
      replace ey1 := sm6 _ _ ey1
      rw [cutV_to (by decide), ← List.map_take] at h4
      refine ⟨line_of (show 1 ≤ 16777216 by decide), fun t5 nt5 => ?_⟩
      have net5 := st_ne d6.st nt5
      have d7 := d6.new (p := t5) (o := .tup [.ref q]) nt5 trivial
      replace hF := same_new (o := .tup [.ref q]) nt5 _ _ hF
      replace ey1 := same_new (o := .tup [.ref q]) nt5 _ _ ey1
      have et5 : (upd H6 t5 (.tup [.ref q])) t5 = some (.tup [.ref q]) := upd_same
      generalize upd H6 t5 (.tup [.ref q]) = H7 at d7 et5 hF ey1 ⊢
      refine fun t6 nt6 => ?_
      have net6 := st_ne d7.st nt6
      have d8 := d7.new (p := t6) (o := .dK []) nt6 trivial
      replace hF := same_new (o := .dK []) nt6 _ _ hF
      replace ey1 := same_new (o := .dK []) nt6 _ _ ey1
      replace et5 := same_new (o := .dK []) nt6 _ _ et5
      have et6 : (upd H7 t6 (.dK [])) t6 = some (.dK []) := upd_same
      generalize upd H7 t6 (.dK []) = H8 at d8 et6 hF ey1 et5 ⊢
      refine ⟨line_of (show 8 ≤ 16777216 by decide), fun t7 nt7 => ?_⟩
      have net7 := st_ne d8.st nt7
      have d9 := d8.new (p := t7) (o := .lst [.ref y1, .ref p4, .non, .int 0, .str "-", .str "", .ref t5, .ref t6]) nt7 trivial
      replace hF := same_new (o := .lst [.ref y1, .ref p4, .non, .int 0, .str "-", .str "", .ref t5, .ref t6]) nt7 _ _ hF
      replace ey1 := same_new (o := .lst [.ref y1, .ref p4, .non, .int 0, .str "-", .str "", .ref t5, .ref t6]) nt7 _ _ ey1
      replace et5 := same_new (o := .lst [.ref y1, .ref p4, .non, .int 0, .str "-", .str "", .ref t5, .ref t6]) nt7 _ _ et5
      replace et6 := same_new (o := .lst [.ref y1, .ref p4, .non, .int 0, .str "-", .str "", .ref t5, .ref t6]) nt7 _ _ et6
      have et7 : (upd H8 t7 (.lst [.ref y1, .ref p4, .non, .int 0, .str "-", .str "", .ref t5, .ref t6])) t7 = some (.lst [.ref y1, .ref p4, .non, .int 0, .str "-", .str "", .ref t5, .ref t6]) := upd_same
      generalize upd H8 t7 (.lst [.ref y1, .ref p4, .non, .int 0, .str "-", .str "", .ref t5, .ref t6]) = H9 at d9 et7 hF ey1 et5 et6 ⊢
      refine .inl ⟨_, .inl (.inl (.inl et7)), ?_⟩
      refine ⟨a, 8, rfl, rfl, d9.st, bas_lt (by decide) (by decide), d9.wf, fun rA pA qA gA lA nA => ?_⟩
      have dA := d9.drawn (q := qA) nA
      replace hF := (upd_ne (o := stL pA qA) nF).trans hF
      replace ey1 := (upd_ne (o := stL pA qA) ney1).trans ey1
      replace et5 := (upd_ne (o := stL pA qA) net5).trans et5
      replace et6 := (upd_ne (o := stL pA qA) net6).trans et6
      replace et7 := (upd_ne (o := stL pA qA) net7).trans et7
      generalize upd H9 a (stL pA qA) = HA at dA hF ey1 et5 et6 et7 ⊢
      obtain ⟨v, hv, mv⟩ := at_lt (xs := [V.ref y1, .ref p4, .non, .int 0, .str "-", .str "", .ref t5, .ref t6]) gA (by exact lA)
      refine ⟨_, v, .inl (.inl (.inl et7)), hv, ?_⟩
      replace h4 := dA.tups D6.st _ _ h4
      have hqA := (D6.trans dA).tups s0 _ _ hq0
      have fin : ∀ d, Dp K (G2 F a HA) v d → arePausesD d = false → bQ H Q v HA := fun d x y => bQ.mk dA.wf (k v HA (D6.trans dA) (.inl ⟨d, x, y⟩))
      simp only [List.mem_cons, List.not_mem_nil, or_false] at mv
      rcases mv with rfl | rfl | rfl | rfl | rfl | rfl | rfl | rfl
      · exact fin _ (.lst (.inl (.inl (G2.at ny1F ney1 ey1))) (dp_ints ps)) rfl
      · refine fin _ (.tup (G2.sqt hF dA.st _ _ h4) (dp_ints _)) ?_
        show (decide _ && _) = false
        rw [decide_eq_false, Bool.false_and]
        rw [List.length_map, List.length_take, List.length_append, List.length_replicate]
        have : min (Int.toNat 11) (ps.length + 11) = 11 := by
          show min 11 _ = 11
          omega
        rw [this]
        decide
      · exact fin _ .non rfl
      · exact fin _ (.int _) rfl
      · exact fin _ (.str _) rfl
      · exact fin _ (.str _) rfl
      · exact fin _ (.tup (G2.sqt hF dA.st _ _ (.inl (.inl et5))) (.cons (.tup (G2.sqt hF dA.st _ _ hqA) (dp_ints ps)) .nil)) rfl
      · refine bQ.mk dA.wf (k _ HA (D6.trans dA) (.inr ?_))
        refine isi_ty (.base (.dK (G2.at ?_ net6 et6))) (by decide +kernel)
        intro z
        rw [z, hF] at et6
        cases et6

def PartD (K : PySem.W.Frag) (G : Hp) (f : PyData → Bool) (x : V) (bad : Bool) : Prop := ∃ d, Dp K G x d ∧ (bad = true → f d = false)
def Part4 (K : PySem.W.Frag) (G : Hp) (x : V) (bad : Bool) : Prop := (∃ d, Dp K G x d ∧ (bad = true → arePausesD d = false)) ∨ NoTupV K G x
def Parts (K : PySem.W.Frag) (G : Hp) (xs : List V) (b : Bool) : Prop := ∃ x1 x2 x3 x4 x5 b1 b2 b3 b4 b5, xs = [x1, x2, x3, x4, x5] ∧ PartD K G isOrderD x1 b1 ∧ PartD K G (fun d => isWholeD d 1 20) x2 b2 ∧ PartD K G (fun d => isWholeD d 1 1000000) x3 b3 ∧ Part4 K G x4 b4 ∧ PartD K G (fun d => isWholeD d 0 200) x5 b5 ∧ (b = true → (b1 || b2 || b3 || b4 || b5) = true)
theorem PartD.keep {K : PySem.W.Frag} {G G' : Hp} {f : PyData → Bool} {x : V} {b : Bool} (s : Same G G') (h : PartD K G f x b) : PartD K G' f x b := by
  obtain ⟨d, h1, h2⟩ := h
  exact ⟨d, dp_keep s h1, h2⟩
theorem Part4.keep {K : PySem.W.Frag} {G G' : Hp} {x : V} {b : Bool} (s : Same G G') (h : Part4 K G x b) : Part4 K G' x b := by
  rcases h with ⟨d, h1, h2⟩ | h
  · exact .inl ⟨d, dp_keep s h1, h2⟩
  · exact .inr (isi_same s h)
theorem Parts.keep {K : PySem.W.Frag} {G G' : Hp} {xs : List V} {b : Bool} (s : Same G G') (h : Parts K G xs b) : Parts K G' xs b := by
  obtain ⟨x1, x2, x3, x4, x5, b1, b2, b3, b4, b5, e, h1, h2, h3, h4, h5, h6⟩ := h
  exact ⟨x1, x2, x3, x4, x5, b1, b2, b3, b4, b5, e, h1.keep s, h2.keep s, h3.keep s, h4.keep s, h5.keep s, h6⟩
theorem Parts.no {K : PySem.W.Frag} {G : Hp} {t : Addr} {xs : List V} (h : Parts K G xs true) (ht : SqT K G t xs) : NoRuleV K G (.ref t) := by
  obtain ⟨x1, x2, x3, x4, x5, b1, b2, b3, b4, b5, rfl, ⟨d1, g1, e1⟩, ⟨d2, g2, e2⟩, ⟨d3, g3, e3⟩, h4, ⟨d5, g5, e5⟩, h6⟩ := h
  rcases h4 with ⟨d4, g4, e4⟩ | h4
  · refine .inl ⟨.tuple [d1, d2, d3, d4, d5], .tup ht (.cons g1 (.cons g2 (.cons g3 (.cons g4 (.cons g5 .nil))))), ?_⟩
    show (isOrderD d1 && (isWholeD d2 1 20 && isWholeD d3 1 1000000) && (arePausesD d4 && isWholeD d5 0 200)) = false
    have := h6 rfl
    cases b1 with
    | true => rw [e1 rfl]; rfl
    | false =>
      cases b2 with
      | true => rw [show isWholeD d2 1 20 = false from e2 rfl]; simp
      | false =>
        cases b3 with
        | true => rw [show isWholeD d3 1 1000000 = false from e3 rfl]; simp
        | false =>
          cases b4 with
          | true => rw [e4 rfl]; simp
          | false =>
            cases b5 with
            | true => rw [show isWholeD d5 0 200 = false from e5 rfl]; simp
            | false => cases this
  · exact .inr (.inr ⟨t, x1, x2, x3, x4, x5, d1, d2, d3, d5, rfl, ht, g1, g2, g3, h4, g5⟩)
theorem hid_le {a : Addr} {H : Hp} : Same (hid a H) H := fun b o e => by
  unfold hid at e
  split at e
  · cases e
  · exact e
theorem hid_dr {a : Addr} {H H' : Hp} (d : Dr a H H') : Same (hid a H) (hid a H') := fun b o e => by
  unfold hid at e ⊢
  split at e
  · cases e
  · rename_i n
    rw [if_neg n]
    exact d.kp b o n e
theorem hid_sqt {K : PySem.W.Frag} {a : Addr} {H : Hp} (s : St2 H a) : ∀ p ys, SqT K H p ys → SqT K (hid a H) p ys := fun p ys h => by
  obtain ⟨u, w, ha, _⟩ := s
  rcases h with (h | ⟨z, h⟩) | h
  · exact .inl (.inl (hid_at (ne_of h ha (fun z => by cases z)) h))
  · exact .inl (.inr ⟨z, hid_at (ne_of h ha (fun z => by cases z)) h⟩)
  · exact .inr h
theorem g2_hid {F a : Addr} {H : Hp} : Same (G2 F a H) (hid a H) := fun b o e => by
  obtain ⟨n, m, e⟩ := G2.of e
  exact hid_at m e

abbrev s__law_spoilt : Stmt := topS 61
abbrev N__law_spoilt : List Str := ["_law_state_here", "_law_rule_here", "_law_way", "_law_places", "_law_some", "_law_found", "_law_place"]
theorem sc__law_spoilt : FnScope N__law_spoilt ["_law_state_here", "_law_rule_here"] (defScope s__law_spoilt) := ⟨rfl, rfl, rfl, by decide +kernel, rfl, by decide +kernel, by decide +kernel⟩
def sp__law_spoilt (K : PySem.W.Frag) (c : Ad) : Sp := fun vs H Q E => arg2 (fun s v => ∃ (a : Addr) (o : Str) (t l : Int) (ps : List Int) (m : Int), s = .ref a ∧ RuleAt K H v o t l ps m ∧ RuleOk o t l ps m ∧ St2 H a ∧ Wf H ∧ ∀ v' H', Dr a H H' → NoRuleV K (hid a H') v' → Q v' H') vs
theorem ok__law_spoilt {P : Program} {w : World} {K : PySem.W.Frag} {mg : Str → Option Value} {base : Heap} {c : Ad} (T : Txt K mg c) : Ok P w K mg base 5 "_law_spoilt" ["_law_state_here", "_law_rule_here"] (sp__law_spoilt K c) := by
  refine okF T.f__law_spoilt sc__law_spoilt (fun vs H Q E h => ?_) (fun f cdv A outer sh H vs Q E hr h => ?_)
  · obtain ⟨s, v, rfl, h⟩ := arg2.ex h
    rfl
  · obtain ⟨s, v, rfl, h⟩ := arg2.ex h
    have tk : Takes (cxOf (L2.CX P w) P w K mg base N__law_spoilt "_law_spoilt" (defScope s__law_spoilt) f cdv A outer sh H (bE H E)) (fun cls d _ H' => bE H E cls d H') := takes_of rfl rfl rfl rfl
    refine ⟨_, pss_cons (ps_set (i := 2) sc__law_spoilt.nd rfl (.inl rfl) (pe_f (ok__law_digit (K := K) T) (hr.mono (by decide)) passL (pa_cons (lv 0) (pa_cons pe_int pa_nil))))
      (pss_cons (ps_set (i := 3) sc__law_spoilt.nd rfl (.inl rfl) (pe_slice (slU (K := K)) (pe_lst (pa_cons (pe_f (ok__law_digit (K := K) T) (hr.mono (by decide)) passL (pa_cons (lv 0) (pa_cons pe_int pa_nil))) (pa_cons (pe_f (ok__law_digit (K := K) T) (hr.mono (by decide)) passL (pa_cons (lv 0) (pa_cons pe_int pa_nil))) pa_nil))) po_none (po_someU (pe_op (opU_add (K := K)) pe_int (pe_f (ok__law_digit (K := K) T) (hr.mono (by decide)) passL (pa_cons (lv 0) (pa_cons pe_int pa_nil)))))))
      (pss_cons (ps_if (pt_cmpU (opU_eq (K := K) hr) (lv 2) pe_int (nomark _))
      (pss_cons (ps_set (i := 4) sc__law_spoilt.nd rfl (.inl rfl) (pe_lst (pa_cons (pe_slice (slU (K := K)) (lv 1) po_none (po_someU pe_int)) (pa_cons (pe_op (opU_add (K := K)) (lv 1) (pe_tup (pa_cons pe_int pa_nil))) (pa_cons (pe_callTy (callU_list (K := K) rfl) (by rfl) T.m_list (by decide +kernel) (pa_cons (lv 1) pa_nil)) (pa_cons pe_non (pa_cons pe_str (pa_cons (pe_tup (pa_cons (lv 1) pa_nil)) (pa_cons pe_dnewK (pa_cons pe_int (pa_cons (pe_tup pa_nil) pa_nil)))))))))))
      (pss_one (ps_ret (pe_ix (ixU (K := K)) (lv 4) (pe_f (ok__law_digit (K := K) T) (hr.mono (by decide)) passL (pa_cons (lv 0) (pa_cons (pe_callB (callU_len (K := K)) (by rfl) T.m_len (by decide +kernel) (pa_cons (lv 4) pa_nil)) pa_nil))) (fun _ _ => rfl))))) pss_nil)
      (pss_cons (ps_set (i := 5) sc__law_spoilt.nd rfl (.inl rfl) (pe_callTy (callU_list (K := K) rfl) (by rfl) T.m_list (by decide +kernel) (pa_cons (lv 1) pa_nil)))
      (pss_cons (ps_for (passes_of rfl) rfl (pi_listK (K := K) (lv 3)) (pg_name (i := 6) sc__law_spoilt.nd rfl (.inl rfl))
      (pss_one (ps_if (pt_cmpU (opU_eq (K := K) hr) (lv 6) pe_int (nomark _))
      (pss_one (ps_asg (pe_ix (ixU (K := K)) (pe_lst (pa_cons pe_str (pa_cons pe_str (pa_cons pe_str (pa_cons pe_str (pa_cons pe_str (pa_cons pe_non (pa_cons pe_int (pa_cons (pe_lst (pa_cons pe_str pa_nil)) (pa_cons (pe_tup (pa_cons pe_str pa_nil)) pa_nil)))))))))) (pe_f (ok__law_digit (K := K) T) (hr.mono (by decide)) passL (pa_cons (lv 0) (pa_cons pe_int pa_nil))) (fun _ _ => rfl)) (pg_sub (lv 5) pe_int setU))) (pss_one (ps_if (pt_cmpU (opU_eq (K := K) hr) (lv 6) pe_int (nomark _))
      (pss_one (ps_asg (pe_f (ok__law_no_number (K := K) T) (hr.mono (by decide)) passL (pa_cons (lv 0) (pa_cons pe_int (pa_cons pe_int pa_nil)))) (pg_sub (lv 5) pe_int setU))) (pss_one (ps_if (pt_cmpU (opU_eq (K := K) hr) (lv 6) pe_int (nomark _))
      (pss_one (ps_asg (pe_f (ok__law_no_number (K := K) T) (hr.mono (by decide)) passL (pa_cons (lv 0) (pa_cons pe_int (pa_cons (pe_op opU_pow pe_int pe_int) pa_nil)))) (pg_sub (lv 5) pe_int setU))) (pss_one (ps_if (pt_cmpU (opU_eq (K := K) hr) (lv 6) pe_int (nomark _))
      (pss_one (ps_asg (pe_f (ok__law_no_pauses (K := K) T) hr passL (pa_cons (lv 0) (pa_cons (pe_ix (ixU (K := K)) (lv 1) pe_int (fun _ _ => rfl)) pa_nil))) (pg_sub (lv 5) pe_int setU))) (pss_one (ps_asg (pe_f (ok__law_no_number (K := K) T) (hr.mono (by decide)) passL (pa_cons (lv 0) (pa_cons pe_int (pa_cons pe_int pa_nil)))) (pg_sub (lv 5) pe_int setU))))))))))))
      (pss_one (ps_ret (pe_callTy (callU_tuple (K := K)) (by rfl) T.m_tuple (by decide +kernel) (pa_cons (lv 5) pa_nil)))))))), ?_⟩
    obtain ⟨a, o, t, l, ps, m, rfl, ⟨p, q, rfl, hT, hq⟩, ok, s0, wf, k⟩ := h
    have d0 := Dr.refl s0 wf
    refine ⟨a, 10, rfl, rfl, d0.st, bas_lt (by decide) (by decide), d0.wf, fun r1 p1 q1 g1 l1 n1 => ?_⟩
    have d1 := d0.drawn (q := q1) n1
    generalize upd H a (stL p1 q1) = H1 at d1  ⊢
    refine ⟨a, 5, rfl, rfl, d1.st, bas_lt (by decide) (by decide), d1.wf, fun r2 p2 q2 g2 l2 n2 => ?_⟩
    have d2 := d1.drawn (q := q2) n2
    generalize upd H1 a (stL p2 q2) = H2 at d2  ⊢
    refine ⟨a, 5, rfl, rfl, d2.st, bas_lt (by decide) (by decide), d2.wf, fun r3 p3 q3 g3 l3 n3 => ?_⟩
    have d3 := d2.drawn (q := q3) n3
    generalize upd H2 a (stL p3 q3) = H3 at d3  ⊢
    refine ⟨line_of (show 2 ≤ 16777216 by decide), fun x1 nx1 => ?_⟩
    have nex1 := st_ne d3.st nx1
    have d4 := d3.new (p := x1) (o := .lst [.int r2, .int r3]) nx1 trivial
    have ex1 : (upd H3 x1 (.lst [.int r2, .int r3])) x1 = some (.lst [.int r2, .int r3]) := upd_same
    generalize upd H3 x1 (.lst [.int r2, .int r3]) = H4 at d4 ex1  ⊢
    refine ⟨a, 2, rfl, rfl, d4.st, bas_lt (by decide) (by decide), d4.wf, fun r5 p5 q5 g5 l5 n5 => ?_⟩
    have d5 := d4.drawn (q := q5) n5
    replace ex1 := (upd_ne (o := stL p5 q5) nex1).trans ex1
    generalize upd H4 a (stL p5 q5) = H5 at d5 ex1 ⊢
    refine .inl ⟨x1, _, rfl, .inl (.inl ex1), fun x2 nx2 => ?_⟩
    obtain ⟨pl, hpl, hpn, hp2, hpb⟩ : ∃ pl : List Int, cutV [V.int r2, .int r3] none (some (1 + r5)) = pl.map V.int ∧ 1 ≤ pl.length ∧ pl.length ≤ 2 ∧ ∀ x ∈ pl, 0 ≤ x ∧ x < 5 := by
      rw [cutV_to (by omega)]
      obtain h | h : r5 = 0 ∨ r5 = 1 := by omega
      · subst h
        exact ⟨[r2], rfl, by simp, by simp, by simp; omega⟩
      · subst h
        exact ⟨[r2, r3], rfl, by simp, by simp, by simp; omega⟩
    rw [hpl]
    have nex2 := st_ne d5.st nx2
    have nex2 := st_ne d5.st nx2
    have d6 := d5.new (p := x2) (o := .lst (pl.map V.int)) nx2 trivial
    have ex2 : (upd H5 x2 (.lst (pl.map V.int))) x2 = some (.lst (pl.map V.int)) := upd_same
    generalize upd H5 x2 (.lst (pl.map V.int)) = H6 at d6 ex2  ⊢
    have hT6 := d6.tups s0 _ _ hT
    have hq6 := d6.tups s0 _ _ hq
    refine iteC (p := V.int r1 = V.int 0) (fun h1 => ?_) (fun h1 => ?_)
    · refine .inr ⟨p, _, rfl, hT6, fun z => absurd z.2 (by decide : ¬ HT.sIx 5 5 (some 4) = 5), fun y1 ny1 => ?_⟩
      have ney1 := st_ne d6.st ny1
      have d7 := d6.new (p := y1) (o := .tup (cutV [V.str o, .int t, .int l, .ref q, .int m] none (some 4))) ny1 trivial
      have ey1 : (upd H6 y1 (.tup (cutV [V.str o, .int t, .int l, .ref q, .int m] none (some 4)))) y1 = some (.tup (cutV [V.str o, .int t, .int l, .ref q, .int m] none (some 4))) := upd_same
      generalize upd H6 y1 (.tup (cutV [V.str o, .int t, .int l, .ref q, .int m] none (some 4))) = H7 at d7 ey1  ⊢
      have hc : cutV [V.str o, .int t, .int l, .ref q, .int m] none (some 4) = [.str o, .int t, .int l, .ref q] := rfl
      rw [hc] at ey1
      refine ⟨line_of (show 1 ≤ 16777216 by decide), fun t1 nt1 => ?_⟩
      have net1 := st_ne d7.st nt1
      have d8 := d7.new (p := t1) (o := .tup [.int 0]) nt1 trivial
      replace ey1 := same_new (o := .tup [.int 0]) nt1 _ _ ey1
      have et1 : (upd H7 t1 (.tup [.int 0])) t1 = some (.tup [.int 0]) := upd_same
      generalize upd H7 t1 (.tup [.int 0]) = H8 at d8 et1 ey1 ⊢
      refine .inr ⟨p, t1, _, _, rfl, rfl, d8.tups s0 _ _ hT, .inl (.inl et1), by simp, line_of (show 6 ≤ 16777216 by decide), fun e => (by cases e), fun _ y2 ny2 => ?_⟩
      have ney2 := st_ne d8.st ny2
      have d9 := d8.new (p := y2) (o := .tup ([V.str o, .int t, .int l, .ref q, .int m] ++ [V.int 0])) ny2 trivial
      replace ey1 := same_new (o := .tup ([V.str o, .int t, .int l, .ref q, .int m] ++ [V.int 0])) ny2 _ _ ey1
      have ey2 : (upd H8 y2 (.tup ([V.str o, .int t, .int l, .ref q, .int m] ++ [V.int 0]))) y2 = some (.tup ([V.str o, .int t, .int l, .ref q, .int m] ++ [V.int 0])) := upd_same
      generalize upd H8 y2 (.tup ([V.str o, .int t, .int l, .ref q, .int m] ++ [V.int 0])) = H9 at d9 ey2 ey1 ⊢
      refine .inl ⟨_, .inr (d9.tups s0 _ _ hT), fun y3 ny3 => ?_⟩
      have ney3 := st_ne d9.st ny3
      have dA := d9.new (p := y3) (o := .lst [V.str o, .int t, .int l, .ref q, .int m]) ny3 trivial
      replace ey1 := same_new (o := .lst [V.str o, .int t, .int l, .ref q, .int m]) ny3 _ _ ey1
      replace ey2 := same_new (o := .lst [V.str o, .int t, .int l, .ref q, .int m]) ny3 _ _ ey2
      have ey3 : (upd H9 y3 (.lst [V.str o, .int t, .int l, .ref q, .int m])) y3 = some (.lst [V.str o, .int t, .int l, .ref q, .int m]) := upd_same
      generalize upd H9 y3 (.lst [V.str o, .int t, .int l, .ref q, .int m]) = HA at dA ey3 ey1 ey2 ⊢
      refine ⟨line_of (show 1 ≤ 16777216 by decide), fun y4 ny4 => ?_⟩
      have ney4 := st_ne dA.st ny4
      have dB := dA.new (p := y4) (o := .tup [.ref p]) ny4 trivial
      replace ey1 := same_new (o := .tup [.ref p]) ny4 _ _ ey1
      replace ey2 := same_new (o := .tup [.ref p]) ny4 _ _ ey2
      replace ey3 := same_new (o := .tup [.ref p]) ny4 _ _ ey3
      have ey4 : (upd HA y4 (.tup [.ref p])) y4 = some (.tup [.ref p]) := upd_same
      generalize upd HA y4 (.tup [.ref p]) = HB at dB ey4 ey1 ey2 ey3 ⊢
      refine fun y5 ny5 => ?_
      have ney5 := st_ne dB.st ny5
      have dC := dB.new (p := y5) (o := .dK []) ny5 trivial
      replace ey1 := same_new (o := .dK []) ny5 _ _ ey1
      replace ey2 := same_new (o := .dK []) ny5 _ _ ey2
      replace ey3 := same_new (o := .dK []) ny5 _ _ ey3
      replace ey4 := same_new (o := .dK []) ny5 _ _ ey4
      have ey5 : (upd HB y5 (.dK [])) y5 = some (.dK []) := upd_same
      generalize upd HB y5 (.dK []) = HC at dC ey5 ey1 ey2 ey3 ey4 ⊢
      refine ⟨line_of (show 0 ≤ 16777216 by decide), fun y6 ny6 => ?_⟩
      have ney6 := st_ne dC.st ny6
      have dD := dC.new (p := y6) (o := .tup []) ny6 trivial
      replace ey1 := same_new (o := .tup []) ny6 _ _ ey1
      replace ey2 := same_new (o := .tup []) ny6 _ _ ey2
      replace ey3 := same_new (o := .tup []) ny6 _ _ ey3
      replace ey4 := same_new (o := .tup []) ny6 _ _ ey4
      replace ey5 := same_new (o := .tup []) ny6 _ _ ey5
      have ey6 : (upd HC y6 (.tup [])) y6 = some (.tup []) := upd_same
      generalize upd HC y6 (.tup []) = HD at dD ey6 ey1 ey2 ey3 ey4 ey5 ⊢
      refine ⟨line_of (show 9 ≤ 16777216 by decide), fun y7 ny7 => ?_⟩
      have ney7 := st_ne dD.st ny7
      have dF := dD.new (p := y7) (o := .lst [.ref y1, .ref y2, .ref y3, .non, .str "put", .ref y4, .ref y5, .int 5, .ref y6]) ny7 trivial
      replace ey1 := same_new (o := .lst [.ref y1, .ref y2, .ref y3, .non, .str "put", .ref y4, .ref y5, .int 5, .ref y6]) ny7 _ _ ey1
      replace ey2 := same_new (o := .lst [.ref y1, .ref y2, .ref y3, .non, .str "put", .ref y4, .ref y5, .int 5, .ref y6]) ny7 _ _ ey2
      replace ey3 := same_new (o := .lst [.ref y1, .ref y2, .ref y3, .non, .str "put", .ref y4, .ref y5, .int 5, .ref y6]) ny7 _ _ ey3
      replace ey4 := same_new (o := .lst [.ref y1, .ref y2, .ref y3, .non, .str "put", .ref y4, .ref y5, .int 5, .ref y6]) ny7 _ _ ey4
      replace ey5 := same_new (o := .lst [.ref y1, .ref y2, .ref y3, .non, .str "put", .ref y4, .ref y5, .int 5, .ref y6]) ny7 _ _ ey5
      replace ey6 := same_new (o := .lst [.ref y1, .ref y2, .ref y3, .non, .str "put", .ref y4, .ref y5, .int 5, .ref y6]) ny7 _ _ ey6
      have ey7 : (upd HD y7 (.lst [.ref y1, .ref y2, .ref y3, .non, .str "put", .ref y4, .ref y5, .int 5, .ref y6])) y7 = some (.lst [.ref y1, .ref y2, .ref y3, .non, .str "put", .ref y4, .ref y5, .int 5, .ref y6]) := upd_same
      generalize upd HD y7 (.lst [.ref y1, .ref y2, .ref y3, .non, .str "put", .ref y4, .ref y5, .int 5, .ref y6]) = HF at dF ey7 ey1 ey2 ey3 ey4 ey5 ey6 ⊢
      refine .inl ⟨_, .inl (.inl (.inl ey7)), ?_⟩
      refine ⟨a, 9, rfl, rfl, dF.st, bas_lt (by decide) (by decide), dF.wf, fun rG pG qG gG lG nG => ?_⟩
      have dG := dF.drawn (q := qG) nG
      replace ey1 := (upd_ne (o := stL pG qG) ney1).trans ey1
      replace ey2 := (upd_ne (o := stL pG qG) ney2).trans ey2
      replace ey3 := (upd_ne (o := stL pG qG) ney3).trans ey3
      replace ey4 := (upd_ne (o := stL pG qG) ney4).trans ey4
      replace ey5 := (upd_ne (o := stL pG qG) ney5).trans ey5
      replace ey6 := (upd_ne (o := stL pG qG) ney6).trans ey6
      replace ey7 := (upd_ne (o := stL pG qG) ney7).trans ey7
      generalize upd HF a (stL pG qG) = HG at dG ey1 ey2 ey3 ey4 ey5 ey6 ey7 ⊢
      obtain ⟨v, hv, mv⟩ := at_lt (xs := [V.ref y1, .ref y2, .ref y3, .non, .str "put", .ref y4, .ref y5, .int 5, .ref y6]) gG (by exact lG)
      refine ⟨_, v, .inl (.inl (.inl ey7)), hv, ?_⟩
      have fin : ∀ d, Dp K (hid a HG) v d → isRuleD d = false → bQ H Q v HG := fun d x y => bQ.mk dG.wf (k v HG dG (.inl ⟨d, x, y⟩))
      have hTG := hid_sqt (K := K) dG.st _ _ (dG.tups s0 _ _ hT)
      have hqG := hid_sqt (K := K) dG.st _ _ (dG.tups s0 _ _ hq)
      have dq : Dp K (hid a HG) (.ref q) (.tuple (ps.map .int)) := .tup hqG (dp_ints ps)
      simp only [List.mem_cons, List.not_mem_nil, or_false] at mv
      rcases mv with rfl | rfl | rfl | rfl | rfl | rfl | rfl | rfl | rfl
      · exact fin (.tuple [.str o, .int t, .int l, .tuple (ps.map .int)]) (.tup (hid_sqt dG.st _ _ (.inl (.inl ey1))) (.cons (.str _) (.cons (.int _) (.cons (.int _) (.cons dq .nil))))) rfl
      · exact fin (.tuple [.str o, .int t, .int l, .tuple (ps.map .int), .int m, .int 0]) (.tup (hid_sqt dG.st _ _ (.inl (.inl ey2))) (.cons (.str _) (.cons (.int _) (.cons (.int _) (.cons dq (.cons (.int _) (.cons (.int _) .nil))))))) rfl
      · exact fin (.list [.str o, .int t, .int l, .tuple (ps.map .int), .int m]) (.lst (.inl (.inl (hid_at ney3 ey3))) (.cons (.str _) (.cons (.int _) (.cons (.int _) (.cons dq (.cons (.int _) .nil)))))) rfl
      · exact fin _ .non rfl
      · exact fin _ (.str _) rfl
      · exact fin (.tuple [.tuple [.str o, .int t, .int l, .tuple (ps.map .int), .int m]]) (.tup (hid_sqt dG.st _ _ (.inl (.inl ey4))) (.cons (.tup hTG (.cons (.str _) (.cons (.int _) (.cons (.int _) (.cons dq (.cons (.int _) .nil)))))) .nil)) rfl
      · exact bQ.mk dG.wf (k _ HG dG (.inr (.inl (isi_ty (.base (.dK (hid_at ney5 ey5))) (by decide +kernel)))))
      · exact fin _ (.int _) rfl
      · exact fin (.tuple []) (.tup (hid_sqt dG.st _ _ (.inl (.inl ey6))) .nil) rfl
    · refine .inl ⟨_, .inr hT6, fun F nF => ?_⟩
      have hF0 : H F = none := d6.free nF
      have nx2F : x2 ≠ F := (ne_of_some ex2 nF).symm
      have neF := st_ne d6.st nF
      have d7 := d6.new (p := F) (o := .lst [V.str o, .int t, .int l, .ref q, .int m]) nF trivial
      replace ex2 := same_new (o := .lst [V.str o, .int t, .int l, .ref q, .int m]) nF _ _ ex2
      have eF : (upd H6 F (.lst [V.str o, .int t, .int l, .ref q, .int m])) F = some (.lst [V.str o, .int t, .int l, .ref q, .int m]) := upd_same
      generalize upd H6 F (.lst [V.str o, .int t, .int l, .ref q, .int m]) = H7 at d7 eF ex2 ⊢
      have e6 : (10 : Int) ^ Int.toNat 6 = 1000000 := by decide
      have dqF : Dp K (G2 F a H7) (.ref q) (.tuple (ps.map .int)) := .tup (G2.sqt eF d7.st _ _ (d7.tups s0 _ _ hq)) (dp_ints ps)
      refine ⟨x2, rfl, ⟨_, .inl (.inl ex2)⟩, for_list (K := K) (a := x2) (xs := pl.map V.int) (fun j σ H' => ∃ (xs : List V) (w6 : Option V), σ = [some (.ref a), some (.ref p), some (.int r1), some (.ref x2), none, some (.ref F), w6] ∧ H' F = some (.lst xs) ∧ H' x2 = some (.lst (pl.map V.int)) ∧ Dr a H H' ∧ Parts K (G2 F a H') xs (decide (0 < j))) ⟨_, _, rfl, eF, ex2, d7, ⟨_, _, _, _, _, false, false, false, false, false, rfl, ⟨_, .str o, fun z => by cases z⟩, ⟨_, .int t, fun z => by cases z⟩, ⟨_, .int l, fun z => by cases z⟩, .inl ⟨_, dqF, fun z => by cases z⟩, ⟨_, .int m, fun z => by cases z⟩, fun z => by cases z⟩⟩ (fun j σ H'' _ h => by obtain ⟨_, _, _, _, h, _⟩ := h; exact .inl (.inl h)) (fun j x σ HL0 hx h => ?_) (fun σ HZ h => ?_)⟩
      · obtain ⟨xs, w6, rfl, eF, ex2, D0, ⟨y1, y2, y3, y4, y5, b1, b2, b3, b4, b5, rfl, g1, g2, g3, g4, g5, gb⟩⟩ := h
        have dL0 := Dr.refl D0.st D0.wf
        rw [List.getElem?_map] at hx
        obtain ⟨n, hn, rfl⟩ : ∃ n, n ∈ pl ∧ x = .int n := by
          cases e : pl[j]? with
          | none => rw [e] at hx; cases hx
          | some n =>
            rw [e] at hx
            cases hx
            exact ⟨n, List.mem_of_getElem? e, rfl⟩
        have hn5 := hpb n hn
        have step : ∀ (H2 : Hp) (xs' : List V), Dr a HL0 H2 → Parts K (G2 F a H2) xs' true → ∃ (xs : List V) (w6 : Option V), [some (V.ref a), some (.ref p), some (.int r1), some (.ref x2), none, some (.ref F), some (.int n)] = [some (.ref a), some (.ref p), some (.int r1), some (.ref x2), none, some (.ref F), w6] ∧ (upd H2 F (.lst xs')) F = some (.lst xs) ∧ (upd H2 F (.lst xs')) x2 = some (.lst (pl.map V.int)) ∧ Dr a H (upd H2 F (.lst xs')) ∧ Parts K (G2 F a (upd H2 F (.lst xs'))) xs (decide (0 < j + 1)) := fun H2 xs' dr hp => by
          have e2 := dr.kp _ _ neF eF
          refine ⟨xs', _, rfl, upd_same, (upd_ne nx2F).trans (dr.kp _ _ nex2 ex2), (D0.trans dr).put hF0 e2 (fun _ z => by cases z) trivial neF, ?_⟩
          rw [decide_eq_true (Nat.succ_pos j)]
          exact hp.keep G2.put
        refine iteC (p := V.int n = V.int 0) (fun h1 => ?_) (fun h1 => ?_)
        · have eF0 := eF
          refine ⟨line_of (show 1 ≤ 16777216 by decide), fun z1 nz1 => ?_⟩
          have nez1 := st_ne dL0.st nz1
          have dL1 := dL0.new (p := z1) (o := .lst [.str "put"]) nz1 trivial
          replace eF := same_new (o := .lst [.str "put"]) nz1 _ _ eF
          replace ex2 := same_new (o := .lst [.str "put"]) nz1 _ _ ex2
          have ez1 : (upd HL0 z1 (.lst [.str "put"])) z1 = some (.lst [.str "put"]) := upd_same
          generalize upd HL0 z1 (.lst [.str "put"]) = HL1 at dL1 ez1 eF ex2 ⊢
          have n1F := ne_of_some eF0 nz1
          have eF1 := eF
          refine ⟨line_of (show 1 ≤ 16777216 by decide), fun z2 nz2 => ?_⟩
          have nez2 := st_ne dL1.st nz2
          have dL2 := dL1.new (p := z2) (o := .tup [.str "turns"]) nz2 trivial
          replace eF := same_new (o := .tup [.str "turns"]) nz2 _ _ eF
          replace ex2 := same_new (o := .tup [.str "turns"]) nz2 _ _ ex2
          replace ez1 := same_new (o := .tup [.str "turns"]) nz2 _ _ ez1
          have ez2 : (upd HL1 z2 (.tup [.str "turns"])) z2 = some (.tup [.str "turns"]) := upd_same
          generalize upd HL1 z2 (.tup [.str "turns"]) = HL2 at dL2 ez2 eF ex2 ez1 ⊢
          have n2F := ne_of_some eF1 nz2
          refine ⟨line_of (show 9 ≤ 16777216 by decide), fun z3 nz3 => ?_⟩
          have nez3 := st_ne dL2.st nz3
          have dL3 := dL2.new (p := z3) (o := .lst [.str "Put", .str "put ", .str "turn", .str "", .str "turnss", .non, .int 0, .ref z1, .ref z2]) nz3 trivial
          replace eF := same_new (o := .lst [.str "Put", .str "put ", .str "turn", .str "", .str "turnss", .non, .int 0, .ref z1, .ref z2]) nz3 _ _ eF
          replace ex2 := same_new (o := .lst [.str "Put", .str "put ", .str "turn", .str "", .str "turnss", .non, .int 0, .ref z1, .ref z2]) nz3 _ _ ex2
          replace ez1 := same_new (o := .lst [.str "Put", .str "put ", .str "turn", .str "", .str "turnss", .non, .int 0, .ref z1, .ref z2]) nz3 _ _ ez1
          replace ez2 := same_new (o := .lst [.str "Put", .str "put ", .str "turn", .str "", .str "turnss", .non, .int 0, .ref z1, .ref z2]) nz3 _ _ ez2
          have ez3 : (upd HL2 z3 (.lst [.str "Put", .str "put ", .str "turn", .str "", .str "turnss", .non, .int 0, .ref z1, .ref z2])) z3 = some (.lst [.str "Put", .str "put ", .str "turn", .str "", .str "turnss", .non, .int 0, .ref z1, .ref z2]) := upd_same
          generalize upd HL2 z3 (.lst [.str "Put", .str "put ", .str "turn", .str "", .str "turnss", .non, .int 0, .ref z1, .ref z2]) = HL3 at dL3 ez3 eF ex2 ez1 ez2 ⊢
          refine ⟨a, 9, rfl, rfl, dL3.st, bas_lt (by decide) (by decide), dL3.wf, fun rL4 pL4 qL4 gL4 lL4 nL4 => ?_⟩
          have dL4 := dL3.drawn (q := qL4) nL4
          replace eF := (upd_ne (o := stL pL4 qL4) neF).trans eF
          replace ex2 := (upd_ne (o := stL pL4 qL4) nex2).trans ex2
          replace ez1 := (upd_ne (o := stL pL4 qL4) nez1).trans ez1
          replace ez2 := (upd_ne (o := stL pL4 qL4) nez2).trans ez2
          replace ez3 := (upd_ne (o := stL pL4 qL4) nez3).trans ez3
          generalize upd HL3 a (stL pL4 qL4) = HL4 at dL4 eF ex2 ez1 ez2 ez3 ⊢
          obtain ⟨v, hv, mv⟩ := at_lt (xs := [V.str "Put", .str "put ", .str "turn", .str "", .str "turnss", .non, .int 0, .ref z1, .ref z2]) gL4 (by exact lL4)
          refine ⟨_, v, .inl (.inl (.inl ez3)), hv, ?_⟩
          have bad : PartD K (G2 F a HL4) isOrderD v true := by
            simp only [List.mem_cons, List.not_mem_nil, or_false] at mv
            rcases mv with rfl | rfl | rfl | rfl | rfl | rfl | rfl | rfl | rfl
            · exact ⟨_, .str _, fun _ => by decide +kernel⟩
            · exact ⟨_, .str _, fun _ => by decide +kernel⟩
            · exact ⟨_, .str _, fun _ => by decide +kernel⟩
            · exact ⟨_, .str _, fun _ => by decide +kernel⟩
            · exact ⟨_, .str _, fun _ => by decide +kernel⟩
            · exact ⟨_, .non, fun _ => rfl⟩
            · exact ⟨_, .int _, fun _ => rfl⟩
            · exact ⟨.list [.str "put"], .lst (.inl (.inl (G2.at n1F nez1 ez1))) (.cons (.str _) .nil), fun _ => rfl⟩
            · exact ⟨.tuple [.str "turns"], .tup (.inl (.inl (G2.at n2F nez2 ez2))) (.cons (.str _) .nil), fun _ => rfl⟩
          refine ⟨_, 0, eF, rfl, ?_⟩
          exact step HL4 _ dL4 ⟨v, y2, y3, y4, y5, true, b2, b3, b4, b5, rfl, bad, g2.keep (G2.dr dL4), g3.keep (G2.dr dL4), g4.keep (G2.dr dL4), g5.keep (G2.dr dL4), fun _ => by simp⟩
        · refine iteC (p := V.int n = V.int 1) (fun h2 => ?_) (fun h2 => ?_)
          · refine ⟨a, F, _, 1, 20, rfl, rfl, rfl, by decide, by decide, by decide, eF, neF, dL0.st, dL0.wf, fun v d HL1 dr dp no => ?_⟩
            refine ⟨_, 1, dr.kp _ _ neF eF, rfl, ?_⟩
            exact step HL1 _ dr ⟨y1, v, y3, y4, y5, b1, true, b3, b4, b5, rfl, g1.keep (G2.dr dr), ⟨d, dp, fun _ => no⟩, g3.keep (G2.dr dr), g4.keep (G2.dr dr), g5.keep (G2.dr dr), fun _ => by simp⟩
          · refine iteC (p := V.int n = V.int 2) (fun h3 => ?_) (fun h3 => ?_)
            · refine ⟨⟨by decide, by decide, by decide⟩, a, F, _, 1, 1000000, rfl, rfl, congrArg V.int e6, by decide, by decide, by decide, eF, neF, dL0.st, dL0.wf, fun v d HL1 dr dp no => ?_⟩
              refine ⟨_, 2, dr.kp _ _ neF eF, rfl, ?_⟩
              exact step HL1 _ dr ⟨y1, y2, v, y4, y5, b1, b2, true, b4, b5, rfl, g1.keep (G2.dr dr), g2.keep (G2.dr dr), ⟨d, dp, fun _ => no⟩, g4.keep (G2.dr dr), g5.keep (G2.dr dr), fun _ => by simp⟩
            · refine iteC (p := V.int n = V.int 3) (fun h4 => ?_) (fun h4 => ?_)
              · refine ⟨_, _, .inr (D0.tups s0 _ _ hT), rfl, ?_⟩
                refine ⟨a, F, _, q, ps, rfl, rfl, D0.tups s0 _ _ hq, ok.2.2.2.1.1, eF, neF, dL0.st, dL0.wf, fun v HL1 dr hv => ?_⟩
                refine ⟨_, 3, dr.kp _ _ neF eF, rfl, ?_⟩
                refine step HL1 _ dr ⟨y1, y2, y3, v, y5, b1, b2, b3, true, b5, rfl, g1.keep (G2.dr dr), g2.keep (G2.dr dr), g3.keep (G2.dr dr), ?_, g5.keep (G2.dr dr), fun _ => by simp⟩
                rcases hv with ⟨d, h, e⟩ | h
                · exact .inl ⟨d, h, fun _ => e⟩
                · exact .inr h
              · refine ⟨a, F, _, 0, 200, rfl, rfl, rfl, by decide, by decide, by decide, eF, neF, dL0.st, dL0.wf, fun v d HL1 dr dp no => ?_⟩
                refine ⟨_, 4, dr.kp _ _ neF eF, rfl, ?_⟩
                exact step HL1 _ dr ⟨y1, y2, y3, y4, v, b1, b2, b3, b4, true, rfl, g1.keep (G2.dr dr), g2.keep (G2.dr dr), g3.keep (G2.dr dr), g4.keep (G2.dr dr), ⟨d, dp, fun _ => no⟩, fun _ => by simp⟩
      · obtain ⟨xs, w6, rfl, eF, ex2, D0, hp⟩ := h
        have hpos : decide (0 < (pl.map V.int).length) = true := decide_eq_true (by rw [List.length_map]; omega)
        rw [hpos] at hp
        refine ⟨_, .inl ⟨.inl (.inl eF), fun z nz => ?_⟩⟩
        have dZ := D0.new (p := z) (o := .tup xs) nz trivial
        have smZ := same_new (o := .tup xs) nz
        have eFZ := smZ _ _ eF
        have hp2 := hp.keep (G2.same smZ)
        exact bQ.mk dZ.wf (k _ _ dZ ((hp2.no (G2.sqt eFZ dZ.st _ _ (.inl (.inl upd_same)))).keep g2_hid))

abbrev s__law_refused : Stmt := topS 62
abbrev N__law_refused : List Str := ["_law_way", "_law_rule_here", "_law_k", "_law_found", "e", "_law_others"]
theorem sc__law_refused : FnScope N__law_refused ["_law_way", "_law_rule_here", "_law_k"] (defScope s__law_refused) := ⟨rfl, rfl, rfl, by decide +kernel, rfl, by decide +kernel, by decide +kernel⟩
def sp__law_refused (K : PySem.W.Frag) (c : Ad) : Sp := fun vs H Q E => arg3 (fun s v u => ∃ (n : Int), s = .int n ∧ NoRuleV K H v ∧ Wf H ∧ Q (.bl true) H) vs
theorem ok__law_refused {P : Program} {w : World} {K : PySem.W.Frag} {mg : Str → Option Value} {base : Heap} {c : Ad} (T : Txt K mg c) : Ok P w K mg base 9 "_law_refused" ["_law_way", "_law_rule_here", "_law_k"] (sp__law_refused K c) := by
  refine okF T.f__law_refused sc__law_refused (fun vs H Q E h => ?_) (fun f cdv A outer sh H vs Q E hr h => ?_)
  · obtain ⟨s, v, u, rfl, h⟩ := arg3.ex h
    rfl
  · obtain ⟨s, v, u, rfl, h⟩ := arg3.ex h
    have tk : Takes (cxOf (L2.CX P w) P w K mg base N__law_refused "_law_refused" (defScope s__law_refused) f cdv A outer sh H (bE H E)) (fun cls d _ H' => bE H E cls d H') := takes_of rfl rfl rfl rfl
    refine ⟨_, pss_cons (ps_set (i := 3) sc__law_refused.nd rfl (.inl rfl) pe_bl)
      (pss_cons (ps_tryA (K := K) T.x_LentError sc__law_refused.nd (i := 4) rfl tk (fun W pn xe tk pO => pss_one (ps_if (pt_cmpU (opU_eq (K := K) hr) (lv 0) pe_int (nomark _))
      (pss_one (ps_expr (pe_fS (ok_rule_text (K := K) T) (hr.mono (by decide)) tk (pa_cons (lv 1) pa_nil)))) (pss_one (ps_if (pt_cmpU (opU_eq (K := K) hr) (lv 0) pe_int (nomark _))
      (pss_one (ps_expr (pe_mkS (ok_Row___init__ (K := K) T (x := "Row") ⟨rfl, rfl⟩) hr tk (pa_cons (lv 1) pa_nil)))) (pss_one (ps_expr (pe_fS (ok_pause_behind (K := K) T) (hr.mono (by decide)) tk (pa_cons (lv 1) (pa_cons (lv 2) pa_nil))))))))) (fun a oe cls d pn hz hf => pss_cons (ps_set (i := 5) sc__law_refused.nd rfl (.inl rfl) (pe_lst (pa_cons (pe_callB (callU_isX (K := K) hz hf) (by rfl) T.m_isinstance (by decide +kernel) (pa_cons (lv 4) (pa_cons (pe_xc T.x_NoMoment) pa_nil))) (pa_cons (pe_callB (callU_isX (K := K) hz hf) (by rfl) T.m_isinstance (by decide +kernel) (pa_cons (lv 4) (pa_cons (pe_xc T.x_NoRow) pa_nil))) (pa_cons (pe_callB (callU_isX (K := K) hz hf) (by rfl) T.m_isinstance (by decide +kernel) (pa_cons (lv 4) (pa_cons (pe_xc T.x_NoText) pa_nil))) (pa_cons (pe_callB (callU_isX (K := K) hz hf) (by rfl) T.m_isinstance (by decide +kernel) (pa_cons (lv 4) (pa_cons (pe_xc T.x_NoTry) pa_nil))) pa_nil))))))
      (pss_cons (ps_set (i := 3) sc__law_refused.nd rfl (.inl rfl) (pe_andU (K := K) (pe_callB (callU_isX (K := K) hz hf) (by rfl) T.m_isinstance (by decide +kernel) (pa_cons (lv 4) (pa_cons (pe_xc T.x_NoRule) pa_nil))) (pe_andU (K := K) (pe_callB (callU_isX (K := K) hz hf) (by rfl) T.m_isinstance (by decide +kernel) (pa_cons (lv 4) (pa_cons (pe_ty "ValueError" T.m_ValueError) pa_nil))) (pe_one (pe_cmpR (opU_notin (K := K)) pe_bl (lv 5) (by rfl))))))
      (pss_one (ps_set (i := 3) sc__law_refused.nd rfl (.inl rfl) (pe_andU (K := K) (lv 3) (pe_one (pe_notU (K := K) (pe_callB (callU_isX (K := K) hz hf) (by rfl) T.m_isinstance (by decide +kernel) (pa_cons (lv 4) (pa_cons (pe_xc T.x_NoWork) pa_nil)))))))))))
      (pss_one (ps_ret (lv 3)))), ?_⟩
    obtain ⟨n, rfl, hn, wf, k⟩ := h
    have cc := T.x_NoRule.cc
    have ss := T.u_NoRule_NoRule
    refine iteC (p := V.int n = V.int 0) (fun h1 => ?_) (fun h1 => ?_)
    · refine ⟨wf, .inr ⟨hn, ?_⟩⟩
      refine ⟨true, exc_under T.x_NoRule T.x_LentError T.u_NoRule_LentError, fun _ e2 ne => ?_, fun z => by cases z⟩
      refine ⟨_, rfl, rfl, cc, _, _, _, rfl, fun _ h => h, exc_is T.x_NoRule ss T.x_NoMoment T.u_NoRule_NoMoment, ?_⟩
      refine ⟨_, rfl, rfl, cc, _, _, _, rfl, fun _ h => h, exc_is T.x_NoRule ss T.x_NoRow T.u_NoRule_NoRow, ?_⟩
      refine ⟨_, rfl, rfl, cc, _, _, _, rfl, fun _ h => h, exc_is T.x_NoRule ss T.x_NoText T.u_NoRule_NoText, ?_⟩
      refine ⟨_, rfl, rfl, cc, _, _, _, rfl, fun _ h => h, exc_is T.x_NoRule ss T.x_NoTry T.u_NoRule_NoTry, ?_⟩
      refine ⟨line_of (show 4 ≤ 16777216 by decide), fun q1 nq1 => ?_⟩
      refine ⟨_, rfl, rfl, cc, _, _, _, rfl, fun _ h => h, exc_is T.x_NoRule ss T.x_NoRule T.u_NoRule_NoRule, ?_⟩
      refine ⟨_, rfl, rfl, cc, _, _, _, rfl, fun _ h => h, exc_ve T.x_NoRule, ?_⟩
      refine ⟨_, .inl (.inl (.inl upd_same)), rfl, rfl, ?_⟩
      refine ⟨_, rfl, rfl, cc, _, _, _, rfl, fun _ h => h, exc_is T.x_NoRule ss T.x_NoWork T.u_NoRule_NoWork, ?_⟩
      exact bQ.same wf (same_new nq1) k
    · refine iteC (p := V.int n = V.int 1) (fun h2 => ?_) (fun h2 => ?_)
      · intro x dx nx nd ne
        have sm : Same H (upd (upd H dx (.own x)) x (.ins c.Row dx [])) := fun b o e => by rw [upd_ne (ne_of_none e nx), upd_ne (ne_of_none e nd)]; exact e
        have w1 := wf.made (C := c.Row) (fs := []) nx nd ne
        refine ⟨x, dx, rfl, rfl, upd_same, w1, .inr ⟨hn.keep sm, ?_⟩⟩
        generalize upd (upd H dx (.own x)) x (.ins c.Row dx []) = H1 at sm w1 ⊢
        refine ⟨true, exc_under T.x_NoRule T.x_LentError T.u_NoRule_LentError, fun _ e2 ne => ?_, fun z => by cases z⟩
        refine ⟨_, rfl, rfl, cc, _, _, _, rfl, fun _ h => h, exc_is T.x_NoRule ss T.x_NoMoment T.u_NoRule_NoMoment, ?_⟩
        refine ⟨_, rfl, rfl, cc, _, _, _, rfl, fun _ h => h, exc_is T.x_NoRule ss T.x_NoRow T.u_NoRule_NoRow, ?_⟩
        refine ⟨_, rfl, rfl, cc, _, _, _, rfl, fun _ h => h, exc_is T.x_NoRule ss T.x_NoText T.u_NoRule_NoText, ?_⟩
        refine ⟨_, rfl, rfl, cc, _, _, _, rfl, fun _ h => h, exc_is T.x_NoRule ss T.x_NoTry T.u_NoRule_NoTry, ?_⟩
        refine ⟨line_of (show 4 ≤ 16777216 by decide), fun q1 nq1 => ?_⟩
        refine ⟨_, rfl, rfl, cc, _, _, _, rfl, fun _ h => h, exc_is T.x_NoRule ss T.x_NoRule T.u_NoRule_NoRule, ?_⟩
        refine ⟨_, rfl, rfl, cc, _, _, _, rfl, fun _ h => h, exc_ve T.x_NoRule, ?_⟩
        refine ⟨_, .inl (.inl (.inl upd_same)), rfl, rfl, ?_⟩
        refine ⟨_, rfl, rfl, cc, _, _, _, rfl, fun _ h => h, exc_is T.x_NoRule ss T.x_NoWork T.u_NoRule_NoWork, ?_⟩
        exact bQ.same wf (sm.trans (same_new nq1)) k
      · refine ⟨hn, wf, ?_⟩
        refine ⟨true, exc_under T.x_NoRule T.x_LentError T.u_NoRule_LentError, fun _ e2 ne => ?_, fun z => by cases z⟩
        refine ⟨_, rfl, rfl, cc, _, _, _, rfl, fun _ h => h, exc_is T.x_NoRule ss T.x_NoMoment T.u_NoRule_NoMoment, ?_⟩
        refine ⟨_, rfl, rfl, cc, _, _, _, rfl, fun _ h => h, exc_is T.x_NoRule ss T.x_NoRow T.u_NoRule_NoRow, ?_⟩
        refine ⟨_, rfl, rfl, cc, _, _, _, rfl, fun _ h => h, exc_is T.x_NoRule ss T.x_NoText T.u_NoRule_NoText, ?_⟩
        refine ⟨_, rfl, rfl, cc, _, _, _, rfl, fun _ h => h, exc_is T.x_NoRule ss T.x_NoTry T.u_NoRule_NoTry, ?_⟩
        refine ⟨line_of (show 4 ≤ 16777216 by decide), fun q1 nq1 => ?_⟩
        refine ⟨_, rfl, rfl, cc, _, _, _, rfl, fun _ h => h, exc_is T.x_NoRule ss T.x_NoRule T.u_NoRule_NoRule, ?_⟩
        refine ⟨_, rfl, rfl, cc, _, _, _, rfl, fun _ h => h, exc_ve T.x_NoRule, ?_⟩
        refine ⟨_, .inl (.inl (.inl upd_same)), rfl, rfl, ?_⟩
        refine ⟨_, rfl, rfl, cc, _, _, _, rfl, fun _ h => h, exc_is T.x_NoRule ss T.x_NoWork T.u_NoRule_NoWork, ?_⟩
        exact bQ.same wf (same_new nq1) k

abbrev s_law : Stmt := topS 63
abbrev N_law : List Str := ["_law_script", "_law_k", "_law_state_here", "_law_rule_here", "_law_spoilt_here", "_law_text", "_law_good", "_law_number", "_law_way"]
theorem sc_law : FnScope N_law ["_law_script"] (defScope s_law) := ⟨rfl, rfl, rfl, by decide +kernel, rfl, by decide +kernel, by decide +kernel⟩
def sp_law (K : PySem.W.Frag) : Sp := fun vs H Q E => arg1 (fun s => ∃ ns, ScrL K H s ns ∧ Wf H ∧ ∀ H', Q (.bl true) H') vs
theorem ok_law {P : Program} {w : World} {K : PySem.W.Frag} {mg : Str → Option Value} {base : Heap} {f : Addr} {fd : FuncData} (F : Fun K "law" "law" s_law f fd) {c : Ad} (T : Txt K mg c) : FnOk P w K mg base CX0 10 f fd ["_law_script"] (sp_law K) := by
  refine F.ok sc_law (fun vs H Q E h => ?_) (fun cdv A outer sh H vs Q E hr h => ?_)
  · obtain ⟨s, rfl, h⟩ := arg1.ex h
    rfl
  · obtain ⟨s, rfl, h⟩ := arg1.ex h
    refine ⟨_, pss_cons (ps_for (PassesOwn.never) rfl (pi_range1 (by rfl) T.m_range (pa_cons (pe_op (opU_add (K := K)) pe_int (pe_callB (callU_min2 rfl) (by rfl) T.m_min (by decide +kernel) (pa_cons (pe_callB (callU_len (K := K)) (by rfl) T.m_len (by decide +kernel) (pa_cons (lv 0) pa_nil)) (pa_cons pe_int pa_nil)))) pa_nil)) (pg_name (i := 1) sc_law.nd rfl (.inl rfl))
      (pss_cons (ps_set (i := 2) sc_law.nd rfl (.inl rfl) (pe_f (ok__law_state (K := K) T) (hr.mono (by decide)) passL (pa_cons (pe_f (ok__law_cell_at (K := K) T) (hr.mono (by decide)) passL (pa_cons (lv 0) (pa_cons (lv 1) pa_nil))) (pa_cons (lv 1) pa_nil))))
      (pss_cons (ps_set (i := 3) sc_law.nd rfl (.inl rfl) (pe_f (ok__law_rule (K := K) T) (hr.mono (by decide)) passL (pa_cons (lv 2) pa_nil)))
      (pss_cons (ps_set (i := 4) sc_law.nd rfl (.inr rfl) (pe_f (ok__law_spoilt (K := K) T) (hr.mono (by decide)) passL (pa_cons (lv 2) (pa_cons (lv 3) pa_nil))))
      (pss_cons (ps_set (i := 5) sc_law.nd rfl (.inl rfl) (pe_fS (ok_rule_text (K := K) T) (hr.mono (by decide)) takes0 (pa_cons (lv 3) pa_nil)))
      (pss_cons (ps_set (i := 6) sc_law.nd rfl (.inl rfl) (pe_lst (pa_cons (pe_f (ok_is_rule (K := K) T) (hr.mono (by decide)) passL (pa_cons (lv 3) pa_nil)) (pa_cons (pe_f (ok_is_rule (K := K) T) (hr.mono (by decide)) passL (pa_cons (lv 4) pa_nil)) pa_nil))))
      (pss_cons (ps_if (PW.pt (pw_or (pt_cmpU (opU_ne (K := K) hr) (lv 6) (pe_lst (pa_cons pe_bl (pa_cons pe_bl pa_nil))) (nomark _)) (pw_or (pt_not (pt_truthU (K := K) (pe_callB (callU_isi (K := K)) (by rfl) T.m_isinstance (by decide +kernel) (pa_cons (pe_ix (ixU (K := K)) (lv 6) pe_int (fun _ _ => rfl)) (pa_cons (pe_ty "bool" T.m_bool) pa_nil))) (by intro _; rfl))) (pw_or1 (pt_not (pt_truthU (K := K) (pe_callB (callU_isi (K := K)) (by rfl) T.m_isinstance (by decide +kernel) (pa_cons (pe_ix (ixU (K := K)) (lv 6) pe_int (fun _ _ => rfl)) (pa_cons (pe_ty "bool" T.m_bool) pa_nil))) (by intro _; rfl)))))))
      (pss_one (ps_ret pe_bl)) pss_nil)
      (pss_cons (ps_set (i := 7) sc_law.nd rfl (.inr rfl) (pe_ix (ixU (K := K)) (pe_lst (pa_cons pe_int (pa_cons pe_int (pa_cons pe_non (pa_cons pe_bl (pa_cons pe_str (pa_cons (pe_op opU_pow pe_int pe_int) pa_nil))))))) (pe_f (ok__law_digit (K := K) T) (hr.mono (by decide)) passL (pa_cons (lv 2) (pa_cons pe_int pa_nil))) (fun _ _ => rfl)))
      (pss_cons (ps_if (pt_cmpU (opU_ne (K := K) hr) (pe_lc (own := [("_law_way", 8)]) (g := gName 8) rfl sc_law.nd (pi_range1 (by rfl) T.m_range (pa_cons pe_int pa_nil)) (blkOk_by (own := [("_law_way", 8)]) (N := N_law) (sc := defScope s_law) (by decide +kernel)) (fun _ _ _ _ _ => pg_name (i := 8) sc_law.nd rfl (.inl rfl)) (fun _ _ _ _ _ => pts_nil) (fun _ _ _ _ _ => pe_f (ok__law_refused (K := K) T) hr passL (pa_cons (lv 8) (pa_cons (lv 4) (pa_cons (lv 7) pa_nil))))) (pe_lst (pa_cons pe_bl (pa_cons pe_bl (pa_cons pe_bl pa_nil)))) (nomark _))
      (pss_one (ps_ret pe_bl)) pss_nil)
      (pss_one (ps_if (PW.pt (pw_or (pt_cmpU (opU_ne (K := K) hr) (pe_fS (ok_rule_text (K := K) T) (hr.mono (by decide)) takes0 (pa_cons (lv 3) pa_nil)) (lv 5) (nomark _)) (pw_or1 (pt_cmpU (opU_ne (K := K) hr) (pe_fldK (K := K) (pe_mkS (ok_Row___init__ (K := K) T (x := "Row") ⟨rfl, rfl⟩) (hr.mono (by decide)) takes0 (pa_cons (lv 3) pa_nil)) rfl) (lv 3) (nomark _)))))
      (pss_one (ps_ret pe_bl)) pss_nil)))))))))))
      (pss_one (ps_ret pe_bl)), ?_⟩
    obtain ⟨ns, ⟨a0, rfl, hS, hl⟩, wf, k⟩ := h
    refine .inl ⟨_, .inl hS, _, rfl, by split <;> omega, by split <;> omega, ?_⟩
    refine for_range (lo := 0) (n := _) (fun i σ H' => Same H H' ∧ Wf H' ∧ ∃ x1 x2 x3 x4 x5 x6 x7, σ = [some (.ref a0), x1, x2, x3, x4, x5, x6, x7, none]) ⟨Same.refl _, wf, _, _, _, _, _, _, _, rfl⟩ (fun i σ H' hi hp => ?_) (fun σ H' hp => k H')
    obtain ⟨sm, w1, x1, x2, x3, x4, x5, x6, x7, rfl⟩ := hp
    have hi2 : i < 64 := by
      have e : ((ns.map V.int).length : Int) = ns.length := by rw [List.length_map]
      rw [e] at hi
      split at hi <;> omega
    refine ⟨ns, _, ⟨a0, rfl, sm.seq hS, hl⟩, rfl, by omega, w1, fun n => ?_⟩
    refine ⟨n, _, rfl, rfl, by omega, by omega, w1, fun p q a na hp => ?_⟩
    have s0 : St2 (upd H' a (stL p q)) a := ⟨p, q, upd_same, hp⟩
    have dB0 := Dr.refl s0 (w1.new (o := stL p q) trivial na)
    have sm0 : Same H' (upd H' a (stL p q)) := same_new na
    have smH : ∀ {H2 : Hp}, Dr a (upd H' a (stL p q)) H2 → Same H H2 := fun {H2} d b o e => d.kp b o (ne_of_none (sm _ _ e) na) (sm0 b o (sm _ _ e))
    generalize upd H' a (stL p q) = HB0 at s0 dB0 smH ⊢
    refine ⟨a, rfl, s0, dB0.wf, fun v HB1 o t l ps m dB1 ra ok => ?_⟩
    refine ⟨a, o, t, l, ps, m, rfl, ra, ok, dB1.st, dB1.wf, fun v' HB2 dR hno => ?_⟩
    have dB2 := dB1.trans dR
    have ra2 := ra.keep (dR.tups dB1.st)
    refine ⟨dB2.wf, .inl ⟨o, t, l, ps, m, ra2.dp, ok, ?_⟩⟩
    refine ⟨dB2.wf, .inl ⟨_, ra2.dp, ?_⟩⟩
    rw [rule_ok ok]
    refine ⟨dB2.wf, .inr ⟨hno.keep hid_le, ?_⟩⟩
    have D2 := dB2
    replace dB2 := Dr.refl D2.st D2.wf
    refine ⟨line_of (show 2 ≤ 16777216 by decide), fun g ng => ?_⟩
    have neg := st_ne dB2.st ng
    have dB3 := dB2.new (p := g) (o := .lst [.bl true, .bl false]) ng trivial
    have eg : (upd HB2 g (.lst [.bl true, .bl false])) g = some (.lst [.bl true, .bl false]) := upd_same
    generalize upd HB2 g (.lst [.bl true, .bl false]) = HB3 at dB3 eg  ⊢
    refine ⟨line_of (show 2 ≤ 16777216 by decide), fun g2 ng2 => ?_⟩
    have neg2 := st_ne dB3.st ng2
    have dB4 := dB3.new (p := g2) (o := .lst [.bl true, .bl false]) ng2 trivial
    replace eg := same_new (o := .lst [.bl true, .bl false]) ng2 _ _ eg
    have eg2 : (upd HB3 g2 (.lst [.bl true, .bl false])) g2 = some (.lst [.bl true, .bl false]) := upd_same
    generalize upd HB3 g2 (.lst [.bl true, .bl false]) = HB4 at dB4 eg2 eg ⊢
    refine ⟨.list [.bool true, .bool false], .list [.bool true, .bool false], .lst (.inl (.inl eg)) (.cons (.bl _) (.cons (.bl _) .nil)), .lst (.inl (.inl eg2)) (.cons (.bl _) (.cons (.bl _) .nil)), rfl, rfl, ?_⟩
    refine ⟨_, _, .inl (.inl (.inl eg)), rfl, ?_⟩
    refine ⟨_, isk_bool (v := .bl _) trivial, ?_⟩
    refine ⟨_, _, .inl (.inl (.inl eg)), rfl, ?_⟩
    refine ⟨_, isk_bool (v := .bl _) trivial, ?_⟩
    refine ⟨⟨by decide, by decide, by decide⟩, ?_⟩
    refine ⟨line_of (show 6 ≤ 16777216 by decide), fun y ny => ?_⟩
    have ney := st_ne dB4.st ny
    have dB5 := dB4.new (p := y) (o := .lst [.int 1, .int 0, .non, .bl true, .str "1", .int (10 ^ Int.toNat 9)]) ny trivial
    have ey : (upd HB4 y (.lst [.int 1, .int 0, .non, .bl true, .str "1", .int (10 ^ Int.toNat 9)])) y = some (.lst [.int 1, .int 0, .non, .bl true, .str "1", .int (10 ^ Int.toNat 9)]) := upd_same
    generalize upd HB4 y (.lst [.int 1, .int 0, .non, .bl true, .str "1", .int (10 ^ Int.toNat 9)]) = HB5 at dB5 ey  ⊢
    refine ⟨a, 6, rfl, rfl, dB5.st, bas_lt (by decide) (by decide), dB5.wf, fun rB6 pB6 qB6 gB6 lB6 nB6 => ?_⟩
    have dB6 := dB5.drawn (q := qB6) nB6
    replace ey := (upd_ne (o := stL pB6 qB6) ney).trans ey
    generalize upd HB5 a (stL pB6 qB6) = HB6 at dB6 ey ⊢
    obtain ⟨num, hnum, mnum⟩ := at_lt (xs := [V.int 1, .int 0, .non, .bl true, .str "1", .int (10 ^ Int.toNat 9)]) gB6 (by exact lB6)
    refine ⟨_, num, .inl (.inl (.inl ey)), hnum, ?_⟩
    refine ⟨3, rfl, by decide, by decide, fun D nD => ?_⟩
    have wB := dB6.wf
    have hno6 : NoRuleV K HB6 v' := (hno.keep (hid_dr dB6)).keep hid_le
    have ra6 := ra2.keep (dB6.tups D2.st)
    have hD : ∀ o, Same HB6 (upd HB6 D o) := fun o => same_new nD
    refine lc_map (walk_range (lo := 0) (n := 3)) (fun i x => x = .int (0 + (i : Nat))) (fun i H x H' h => h) (fun _ => .bl true) (line_lt (by decide)) (fun o => trivial) (fun i x acc C hi hx hC => ?_) ?_
    · subst hx
      exact ⟨rfl, _, rfl, hno6.keep (hD _), wB.new trivial nD, hC⟩
    · have e3 : (List.range 3).map (fun _ => V.bl true) = [.bl true, .bl true, .bl true] := rfl
      rw [e3]
      have nD' := st_ne dB6.st nD
      have dB7 := dB6.new (p := D) (o := .lst [.bl true, .bl true, .bl true]) nD trivial
      have eD : (upd HB6 D (.lst [.bl true, .bl true, .bl true])) D = some (.lst [.bl true, .bl true, .bl true]) := upd_same
      generalize upd HB6 D (.lst [.bl true, .bl true, .bl true]) = HB7 at dB7 eD ⊢
      refine ⟨line_of (show 3 ≤ 16777216 by decide), fun y8 ny8 => ?_⟩
      have ney8 := st_ne dB7.st ny8
      have dB8 := dB7.new (p := y8) (o := .lst [.bl true, .bl true, .bl true]) ny8 trivial
      replace eD := same_new (o := .lst [.bl true, .bl true, .bl true]) ny8 _ _ eD
      have ey8 : (upd HB7 y8 (.lst [.bl true, .bl true, .bl true])) y8 = some (.lst [.bl true, .bl true, .bl true]) := upd_same
      generalize upd HB7 y8 (.lst [.bl true, .bl true, .bl true]) = HB8 at dB8 ey8 eD ⊢
      refine ⟨.list [.bool true, .bool true, .bool true], .list [.bool true, .bool true, .bool true], .lst (.inl (.inl eD)) (.cons (.bl _) (.cons (.bl _) (.cons (.bl _) .nil))), .lst (.inl (.inl ey8)) (.cons (.bl _) (.cons (.bl _) (.cons (.bl _) .nil))), rfl, rfl, ?_⟩
      have ra8 := ra2.keep (dB8.tups D2.st)
      refine ⟨dB8.wf, .inl ⟨o, t, l, ps, m, ra8.dp, ok, ?_⟩⟩
      refine iteB (c := !decide (V.str (ruleT o t l ps m) = V.str (ruleT o t l ps m))) (fun z => absurd rfl (nd_t z)) (fun _ => ?_)
      intro x dx nx nd ne
      have sm8 : Same HB8 (upd (upd HB8 dx (.own x)) x (.ins c.Row dx [])) := fun b o e => by rw [upd_ne (ne_of_none e nx), upd_ne (ne_of_none e nd)]; exact e
      have w9 := dB8.wf.made (C := c.Row) (fs := []) nx nd ne
      have ra9 := ra8.keep (same_tups sm8)
      refine ⟨x, dx, rfl, rfl, upd_same, w9, .inl ⟨o, t, l, ps, m, ra9.dp, ok, fun H2 rn => ⟨rfl, ?_⟩⟩⟩
      obtain ⟨⟨dx2, a1, a2, a3, a4, a5, a6, hx2, _⟩, kp, w2⟩ := rn
      refine ⟨x, c.Row, dx2, _, v, rfl, hx2, T.o_Row.cl, T.n_Row_rule, rfl, ?_⟩
      have ra10 := ra9.keep (sqt_kx upd_same kp)
      have hdp := ra10.dp
      obtain ⟨pr, qr, rfl, _, _⟩ := ra10
      refine ⟨_, _, hdp, hdp, rule_shaped ok, rule_shaped ok, ?_⟩
      rw [rule_eqv ok]
      refine ⟨fun b o e => ?_, w2, _, _, _, _, _, _, _, rfl⟩
      have e8 := smH (D2.trans dB8) b o e
      exact kp b o (ne_of_none e8 nx) (sm8 b o e8)
theorem all_mk {l : PySem.W.OpenLaw} {w : World} {K : PySem.W.Frag} {h : Heap} {mg : Str → Option Value} {fa : Addr} (X : K.In h) (G : h.Ns mainGlobals mg) (hfa : mg "law" = some (.ref fa))
    {f1 : Addr} {od1 an1 : Option Addr} {sl1 : Array (Option Value)} {oc1 kV1 dc1 pm1 cd1 ct1 : Value}
    (a1 : PySem.W.nsIn K mainGlobals "is_name" = some (some (.ref f1))) (l1 : K.lookup f1 = some ⟨oc1, od1, .func (PySem.W.fnOf "is_name" "is_name" (defArgs (topS 17)) (defBody (topS 17)) (defScope (topS 17)) .none kV1 dc1 pm1 an1 cd1 ct1), sl1⟩) (c1 : PySem.W.codeIn K cd1 "is_name" = true) (k1 : PySem.W.keepIn K (.ref f1) = true)
    {f2 : Addr} {od2 an2 : Option Addr} {sl2 : Array (Option Value)} {oc2 kV2 dc2 pm2 cd2 ct2 : Value}
    (a2 : PySem.W.nsIn K mainGlobals "is_whole" = some (some (.ref f2))) (l2 : K.lookup f2 = some ⟨oc2, od2, .func (PySem.W.fnOf "is_whole" "is_whole" (defArgs (topS 18)) (defBody (topS 18)) (defScope (topS 18)) .none kV2 dc2 pm2 an2 cd2 ct2), sl2⟩) (c2 : PySem.W.codeIn K cd2 "is_whole" = true) (k2 : PySem.W.keepIn K (.ref f2) = true)
    {f3 : Addr} {od3 an3 : Option Addr} {sl3 : Array (Option Value)} {oc3 kV3 dc3 pm3 cd3 ct3 : Value}
    (a3 : PySem.W.nsIn K mainGlobals "is_count" = some (some (.ref f3))) (l3 : K.lookup f3 = some ⟨oc3, od3, .func (PySem.W.fnOf "is_count" "is_count" (defArgs (topS 19)) (defBody (topS 19)) (defScope (topS 19)) .none kV3 dc3 pm3 an3 cd3 ct3), sl3⟩) (c3 : PySem.W.codeIn K cd3 "is_count" = true) (k3 : PySem.W.keepIn K (.ref f3) = true)
    {f4 : Addr} {od4 an4 : Option Addr} {sl4 : Array (Option Value)} {oc4 kV4 dc4 pm4 cd4 ct4 : Value}
    (a4 : PySem.W.nsIn K mainGlobals "is_moment" = some (some (.ref f4))) (l4 : K.lookup f4 = some ⟨oc4, od4, .func (PySem.W.fnOf "is_moment" "is_moment" (defArgs (topS 20)) (defBody (topS 20)) (defScope (topS 20)) .none kV4 dc4 pm4 an4 cd4 ct4), sl4⟩) (c4 : PySem.W.codeIn K cd4 "is_moment" = true) (k4 : PySem.W.keepIn K (.ref f4) = true)
    {f5 : Addr} {od5 an5 : Option Addr} {sl5 : Array (Option Value)} {oc5 kV5 dc5 pm5 cd5 ct5 : Value}
    (a5 : PySem.W.nsIn K mainGlobals "joined" = some (some (.ref f5))) (l5 : K.lookup f5 = some ⟨oc5, od5, .func (PySem.W.fnOf "joined" "joined" (defArgs (topS 21)) (defBody (topS 21)) (defScope (topS 21)) .none kV5 dc5 pm5 an5 cd5 ct5), sl5⟩) (c5 : PySem.W.codeIn K cd5 "joined" = true) (k5 : PySem.W.keepIn K (.ref f5) = true)
    {f6 : Addr} {od6 an6 : Option Addr} {sl6 : Array (Option Value)} {oc6 kV6 dc6 pm6 cd6 ct6 : Value}
    (a6 : PySem.W.nsIn K mainGlobals "are_pauses" = some (some (.ref f6))) (l6 : K.lookup f6 = some ⟨oc6, od6, .func (PySem.W.fnOf "are_pauses" "are_pauses" (defArgs (topS 28)) (defBody (topS 28)) (defScope (topS 28)) .none kV6 dc6 pm6 an6 cd6 ct6), sl6⟩) (c6 : PySem.W.codeIn K cd6 "are_pauses" = true) (k6 : PySem.W.keepIn K (.ref f6) = true)
    {f7 : Addr} {od7 an7 : Option Addr} {sl7 : Array (Option Value)} {oc7 kV7 dc7 pm7 cd7 ct7 : Value}
    (a7 : PySem.W.nsIn K mainGlobals "is_rule" = some (some (.ref f7))) (l7 : K.lookup f7 = some ⟨oc7, od7, .func (PySem.W.fnOf "is_rule" "is_rule" (defArgs (topS 29)) (defBody (topS 29)) (defScope (topS 29)) .none kV7 dc7 pm7 an7 cd7 ct7), sl7⟩) (c7 : PySem.W.codeIn K cd7 "is_rule" = true) (k7 : PySem.W.keepIn K (.ref f7) = true)
    {f8 : Addr} {od8 an8 : Option Addr} {sl8 : Array (Option Value)} {oc8 kV8 dc8 pm8 cd8 ct8 : Value}
    (a8 : PySem.W.nsIn K mainGlobals "sure_rule" = some (some (.ref f8))) (l8 : K.lookup f8 = some ⟨oc8, od8, .func (PySem.W.fnOf "sure_rule" "sure_rule" (defArgs (topS 30)) (defBody (topS 30)) (defScope (topS 30)) .none kV8 dc8 pm8 an8 cd8 ct8), sl8⟩) (c8 : PySem.W.codeIn K cd8 "sure_rule" = true) (k8 : PySem.W.keepIn K (.ref f8) = true)
    {f9 : Addr} {od9 an9 : Option Addr} {sl9 : Array (Option Value)} {oc9 kV9 dc9 pm9 cd9 ct9 : Value}
    (a9 : PySem.W.nsIn K mainGlobals "rule_text" = some (some (.ref f9))) (l9 : K.lookup f9 = some ⟨oc9, od9, .func (PySem.W.fnOf "rule_text" "rule_text" (defArgs (topS 31)) (defBody (topS 31)) (defScope (topS 31)) .none kV9 dc9 pm9 an9 cd9 ct9), sl9⟩) (c9 : PySem.W.codeIn K cd9 "rule_text" = true) (k9 : PySem.W.keepIn K (.ref f9) = true)
    {f10 : Addr} {od10 an10 : Option Addr} {sl10 : Array (Option Value)} {oc10 kV10 dc10 pm10 cd10 ct10 : Value}
    (a10 : PySem.W.nsIn K mainGlobals "pause_behind" = some (some (.ref f10))) (l10 : K.lookup f10 = some ⟨oc10, od10, .func (PySem.W.fnOf "pause_behind" "pause_behind" (defArgs (topS 32)) (defBody (topS 32)) (defScope (topS 32)) .none kV10 dc10 pm10 an10 cd10 ct10), sl10⟩) (c10 : PySem.W.codeIn K cd10 "pause_behind" = true) (k10 : PySem.W.keepIn K (.ref f10) = true)
    {f11 : Addr} {od11 an11 : Option Addr} {sl11 : Array (Option Value)} {oc11 kV11 dc11 pm11 cd11 ct11 : Value}
    (a11 : PySem.W.nsIn K mainGlobals "words_line" = some (some (.ref f11))) (l11 : K.lookup f11 = some ⟨oc11, od11, .func (PySem.W.fnOf "words_line" "words_line" (defArgs (topS 36)) (defBody (topS 36)) (defScope (topS 36)) .none kV11 dc11 pm11 an11 cd11 ct11), sl11⟩) (c11 : PySem.W.codeIn K cd11 "words_line" = true) (k11 : PySem.W.keepIn K (.ref f11) = true)
    {f12 : Addr} {od12 an12 : Option Addr} {sl12 : Array (Option Value)} {oc12 kV12 dc12 pm12 cd12 ct12 : Value}
    (a12 : PySem.W.nsIn K mainGlobals "stands" = some (some (.ref f12))) (l12 : K.lookup f12 = some ⟨oc12, od12, .func (PySem.W.fnOf "stands" "stands" (defArgs (topS 37)) (defBody (topS 37)) (defScope (topS 37)) .none kV12 dc12 pm12 an12 cd12 ct12), sl12⟩) (c12 : PySem.W.codeIn K cd12 "stands" = true) (k12 : PySem.W.keepIn K (.ref f12) = true)
    {f13 : Addr} {od13 an13 : Option Addr} {sl13 : Array (Option Value)} {oc13 kV13 dc13 pm13 cd13 ct13 : Value}
    (a13 : PySem.W.nsIn K mainGlobals "group_word" = some (some (.ref f13))) (l13 : K.lookup f13 = some ⟨oc13, od13, .func (PySem.W.fnOf "group_word" "group_word" (defArgs (topS 38)) (defBody (topS 38)) (defScope (topS 38)) .none kV13 dc13 pm13 an13 cd13 ct13), sl13⟩) (c13 : PySem.W.codeIn K cd13 "group_word" = true) (k13 : PySem.W.keepIn K (.ref f13) = true)
    {f14 : Addr} {od14 an14 : Option Addr} {sl14 : Array (Option Value)} {oc14 kV14 dc14 pm14 cd14 ct14 : Value}
    (a14 : PySem.W.nsIn K mainGlobals "row_line" = some (some (.ref f14))) (l14 : K.lookup f14 = some ⟨oc14, od14, .func (PySem.W.fnOf "row_line" "row_line" (defArgs (topS 39)) (defBody (topS 39)) (defScope (topS 39)) .none kV14 dc14 pm14 an14 cd14 ct14), sl14⟩) (c14 : PySem.W.codeIn K cd14 "row_line" = true) (k14 : PySem.W.keepIn K (.ref f14) = true)
    {f15 : Addr} {od15 an15 : Option Addr} {sl15 : Array (Option Value)} {oc15 kV15 dc15 pm15 cd15 ct15 : Value}
    (a15 : PySem.W.nsIn K mainGlobals "put_line" = some (some (.ref f15))) (l15 : K.lookup f15 = some ⟨oc15, od15, .func (PySem.W.fnOf "put_line" "put_line" (defArgs (topS 40)) (defBody (topS 40)) (defScope (topS 40)) .none kV15 dc15 pm15 an15 cd15 ct15), sl15⟩) (c15 : PySem.W.codeIn K cd15 "put_line" = true) (k15 : PySem.W.keepIn K (.ref f15) = true)
    {f16 : Addr} {od16 an16 : Option Addr} {sl16 : Array (Option Value)} {oc16 kV16 dc16 pm16 cd16 ct16 : Value}
    (a16 : PySem.W.nsIn K mainGlobals "done_line" = some (some (.ref f16))) (l16 : K.lookup f16 = some ⟨oc16, od16, .func (PySem.W.fnOf "done_line" "done_line" (defArgs (topS 41)) (defBody (topS 41)) (defScope (topS 41)) .none kV16 dc16 pm16 an16 cd16 ct16), sl16⟩) (c16 : PySem.W.codeIn K cd16 "done_line" = true) (k16 : PySem.W.keepIn K (.ref f16) = true)
    {f17 : Addr} {od17 an17 : Option Addr} {sl17 : Array (Option Value)} {oc17 kV17 dc17 pm17 cd17 ct17 : Value}
    (a17 : PySem.W.nsIn K mainGlobals "back_line" = some (some (.ref f17))) (l17 : K.lookup f17 = some ⟨oc17, od17, .func (PySem.W.fnOf "back_line" "back_line" (defArgs (topS 42)) (defBody (topS 42)) (defScope (topS 42)) .none kV17 dc17 pm17 an17 cd17 ct17), sl17⟩) (c17 : PySem.W.codeIn K cd17 "back_line" = true) (k17 : PySem.W.keepIn K (.ref f17) = true)
    {f18 : Addr} {od18 an18 : Option Addr} {sl18 : Array (Option Value)} {oc18 kV18 dc18 pm18 cd18 ct18 : Value}
    (a18 : PySem.W.nsIn K mainGlobals "lapse_line" = some (some (.ref f18))) (l18 : K.lookup f18 = some ⟨oc18, od18, .func (PySem.W.fnOf "lapse_line" "lapse_line" (defArgs (topS 43)) (defBody (topS 43)) (defScope (topS 43)) .none kV18 dc18 pm18 an18 cd18 ct18), sl18⟩) (c18 : PySem.W.codeIn K cd18 "lapse_line" = true) (k18 : PySem.W.keepIn K (.ref f18) = true)
    {f19 : Addr} {od19 an19 : Option Addr} {sl19 : Array (Option Value)} {oc19 kV19 dc19 pm19 cd19 ct19 : Value}
    (a19 : PySem.W.nsIn K mainGlobals "is_work" = some (some (.ref f19))) (l19 : K.lookup f19 = some ⟨oc19, od19, .func (PySem.W.fnOf "is_work" "is_work" (defArgs (topS 49)) (defBody (topS 49)) (defScope (topS 49)) .none kV19 dc19 pm19 an19 cd19 ct19), sl19⟩) (c19 : PySem.W.codeIn K cd19 "is_work" = true) (k19 : PySem.W.keepIn K (.ref f19) = true)
    {f20 : Addr} {od20 an20 : Option Addr} {sl20 : Array (Option Value)} {oc20 kV20 dc20 pm20 cd20 ct20 : Value}
    (a20 : PySem.W.nsIn K mainGlobals "work_of" = some (some (.ref f20))) (l20 : K.lookup f20 = some ⟨oc20, od20, .func (PySem.W.fnOf "work_of" "work_of" (defArgs (topS 50)) (defBody (topS 50)) (defScope (topS 50)) .none kV20 dc20 pm20 an20 cd20 ct20), sl20⟩) (c20 : PySem.W.codeIn K cd20 "work_of" = true) (k20 : PySem.W.keepIn K (.ref f20) = true)
    {f21 : Addr} {od21 an21 : Option Addr} {sl21 : Array (Option Value)} {oc21 kV21 dc21 pm21 cd21 ct21 : Value}
    (a21 : PySem.W.nsIn K mainGlobals "_law_cell_at" = some (some (.ref f21))) (l21 : K.lookup f21 = some ⟨oc21, od21, .func (PySem.W.fnOf "_law_cell_at" "_law_cell_at" (defArgs (topS 54)) (defBody (topS 54)) (defScope (topS 54)) .none kV21 dc21 pm21 an21 cd21 ct21), sl21⟩) (c21 : PySem.W.codeIn K cd21 "_law_cell_at" = true) (k21 : PySem.W.keepIn K (.ref f21) = true)
    {f22 : Addr} {od22 an22 : Option Addr} {sl22 : Array (Option Value)} {oc22 kV22 dc22 pm22 cd22 ct22 : Value}
    (a22 : PySem.W.nsIn K mainGlobals "_law_state" = some (some (.ref f22))) (l22 : K.lookup f22 = some ⟨oc22, od22, .func (PySem.W.fnOf "_law_state" "_law_state" (defArgs (topS 55)) (defBody (topS 55)) (defScope (topS 55)) .none kV22 dc22 pm22 an22 cd22 ct22), sl22⟩) (c22 : PySem.W.codeIn K cd22 "_law_state" = true) (k22 : PySem.W.keepIn K (.ref f22) = true)
    {f23 : Addr} {od23 an23 : Option Addr} {sl23 : Array (Option Value)} {oc23 kV23 dc23 pm23 cd23 ct23 : Value}
    (a23 : PySem.W.nsIn K mainGlobals "_law_mixed" = some (some (.ref f23))) (l23 : K.lookup f23 = some ⟨oc23, od23, .func (PySem.W.fnOf "_law_mixed" "_law_mixed" (defArgs (topS 56)) (defBody (topS 56)) (defScope (topS 56)) .none kV23 dc23 pm23 an23 cd23 ct23), sl23⟩) (c23 : PySem.W.codeIn K cd23 "_law_mixed" = true) (k23 : PySem.W.keepIn K (.ref f23) = true)
    {f24 : Addr} {od24 an24 : Option Addr} {sl24 : Array (Option Value)} {oc24 kV24 dc24 pm24 cd24 ct24 : Value}
    (a24 : PySem.W.nsIn K mainGlobals "_law_digit" = some (some (.ref f24))) (l24 : K.lookup f24 = some ⟨oc24, od24, .func (PySem.W.fnOf "_law_digit" "_law_digit" (defArgs (topS 57)) (defBody (topS 57)) (defScope (topS 57)) .none kV24 dc24 pm24 an24 cd24 ct24), sl24⟩) (c24 : PySem.W.codeIn K cd24 "_law_digit" = true) (k24 : PySem.W.keepIn K (.ref f24) = true)
    {f25 : Addr} {od25 an25 : Option Addr} {sl25 : Array (Option Value)} {oc25 kV25 dc25 pm25 cd25 ct25 : Value}
    (a25 : PySem.W.nsIn K mainGlobals "_law_rule" = some (some (.ref f25))) (l25 : K.lookup f25 = some ⟨oc25, od25, .func (PySem.W.fnOf "_law_rule" "_law_rule" (defArgs (topS 58)) (defBody (topS 58)) (defScope (topS 58)) .none kV25 dc25 pm25 an25 cd25 ct25), sl25⟩) (c25 : PySem.W.codeIn K cd25 "_law_rule" = true) (k25 : PySem.W.keepIn K (.ref f25) = true)
    {f26 : Addr} {od26 an26 : Option Addr} {sl26 : Array (Option Value)} {oc26 kV26 dc26 pm26 cd26 ct26 : Value}
    (a26 : PySem.W.nsIn K mainGlobals "_law_no_number" = some (some (.ref f26))) (l26 : K.lookup f26 = some ⟨oc26, od26, .func (PySem.W.fnOf "_law_no_number" "_law_no_number" (defArgs (topS 59)) (defBody (topS 59)) (defScope (topS 59)) .none kV26 dc26 pm26 an26 cd26 ct26), sl26⟩) (c26 : PySem.W.codeIn K cd26 "_law_no_number" = true) (k26 : PySem.W.keepIn K (.ref f26) = true)
    {f27 : Addr} {od27 an27 : Option Addr} {sl27 : Array (Option Value)} {oc27 kV27 dc27 pm27 cd27 ct27 : Value}
    (a27 : PySem.W.nsIn K mainGlobals "_law_no_pauses" = some (some (.ref f27))) (l27 : K.lookup f27 = some ⟨oc27, od27, .func (PySem.W.fnOf "_law_no_pauses" "_law_no_pauses" (defArgs (topS 60)) (defBody (topS 60)) (defScope (topS 60)) .none kV27 dc27 pm27 an27 cd27 ct27), sl27⟩) (c27 : PySem.W.codeIn K cd27 "_law_no_pauses" = true) (k27 : PySem.W.keepIn K (.ref f27) = true)
    {f28 : Addr} {od28 an28 : Option Addr} {sl28 : Array (Option Value)} {oc28 kV28 dc28 pm28 cd28 ct28 : Value}
    (a28 : PySem.W.nsIn K mainGlobals "_law_spoilt" = some (some (.ref f28))) (l28 : K.lookup f28 = some ⟨oc28, od28, .func (PySem.W.fnOf "_law_spoilt" "_law_spoilt" (defArgs (topS 61)) (defBody (topS 61)) (defScope (topS 61)) .none kV28 dc28 pm28 an28 cd28 ct28), sl28⟩) (c28 : PySem.W.codeIn K cd28 "_law_spoilt" = true) (k28 : PySem.W.keepIn K (.ref f28) = true)
    {f29 : Addr} {od29 an29 : Option Addr} {sl29 : Array (Option Value)} {oc29 kV29 dc29 pm29 cd29 ct29 : Value}
    (a29 : PySem.W.nsIn K mainGlobals "_law_refused" = some (some (.ref f29))) (l29 : K.lookup f29 = some ⟨oc29, od29, .func (PySem.W.fnOf "_law_refused" "_law_refused" (defArgs (topS 62)) (defBody (topS 62)) (defScope (topS 62)) .none kV29 dc29 pm29 an29 cd29 ct29), sl29⟩) (c29 : PySem.W.codeIn K cd29 "_law_refused" = true) (k29 : PySem.W.keepIn K (.ref f29) = true)
    {f30 : Addr} {od30 an30 : Option Addr} {sl30 : Array (Option Value)} {oc30 kV30 dc30 pm30 cd30 ct30 : Value}
    (a30 : PySem.W.nsIn K mainGlobals "law" = some (some (.ref f30))) (l30 : K.lookup f30 = some ⟨oc30, od30, .func (PySem.W.fnOf "law" "law" (defArgs (topS 63)) (defBody (topS 63)) (defScope (topS 63)) .none kV30 dc30 pm30 an30 cd30 ct30), sl30⟩) (c30 : PySem.W.codeIn K cd30 "law" = true) (k30 : PySem.W.keepIn K (.ref f30) = true)
    (hn0 : PySem.W.specialIn K (.builtin "object.__class__") "__get__" = some (some (.builtin "getset_descriptor.__get__")))
    (ht0 : PySem.W.takesIn K (.builtin "object.__class__") = some true)
    {C_LentError : Addr}
    (aC_LentError : PySem.W.nsIn K mainGlobals "LentError" = some (some (.ref C_LentError)))
    (ha_LentError : PySem.W.findIn K (.ref C_LentError) "__class__" = some (some (.builtin "object.__class__")))
    (hm_LentError : PySem.W.mroIn K C_LentError (.type "object") = some true)
    (hd_LentError : PySem.W.hasDictIn K C_LentError = true)
    (kc_LentError : PySem.W.keepIn K (.ref C_LentError) = true)
    (xx_LentError : PySem.W.excIn K C_LentError R.veB "ValueError.__new__" = true)
    (xb_LentError : PySem.W.subIn K (.ref C_LentError) (.type "BaseException") = some true)
    (xt_LentError : PySem.W.typeIn K (.ref C_LentError) = some (.type "type"))
    (xv_LentError : PySem.W.subIn K (.ref C_LentError) (.type "ValueError") = some true)
    (xg_LentError : PySem.W.findIn K (.ref C_LentError) "__getattribute__" = some (some (.builtin "BaseException.__getattribute__")))
    (xh_LentError : PySem.W.findIn K (.ref C_LentError) "__getattr__" = some none)
    {C_NoWork : Addr}
    (aC_NoWork : PySem.W.nsIn K mainGlobals "NoWork" = some (some (.ref C_NoWork)))
    (ha_NoWork : PySem.W.findIn K (.ref C_NoWork) "__class__" = some (some (.builtin "object.__class__")))
    (hm_NoWork : PySem.W.mroIn K C_NoWork (.type "object") = some true)
    (hd_NoWork : PySem.W.hasDictIn K C_NoWork = true)
    (kc_NoWork : PySem.W.keepIn K (.ref C_NoWork) = true)
    (xx_NoWork : PySem.W.excIn K C_NoWork R.veB "ValueError.__new__" = true)
    (xb_NoWork : PySem.W.subIn K (.ref C_NoWork) (.type "BaseException") = some true)
    (xt_NoWork : PySem.W.typeIn K (.ref C_NoWork) = some (.type "type"))
    (xv_NoWork : PySem.W.subIn K (.ref C_NoWork) (.type "ValueError") = some true)
    (xg_NoWork : PySem.W.findIn K (.ref C_NoWork) "__getattribute__" = some (some (.builtin "BaseException.__getattribute__")))
    (xh_NoWork : PySem.W.findIn K (.ref C_NoWork) "__getattr__" = some none)
    {C_IsIn : Addr}
    (aC_IsIn : PySem.W.nsIn K mainGlobals "IsIn" = some (some (.ref C_IsIn)))
    (ha_IsIn : PySem.W.findIn K (.ref C_IsIn) "__class__" = some (some (.builtin "object.__class__")))
    (hm_IsIn : PySem.W.mroIn K C_IsIn (.type "object") = some true)
    (hd_IsIn : PySem.W.hasDictIn K C_IsIn = true)
    (kc_IsIn : PySem.W.keepIn K (.ref C_IsIn) = true)
    (xx_IsIn : PySem.W.excIn K C_IsIn R.veB "ValueError.__new__" = true)
    (xb_IsIn : PySem.W.subIn K (.ref C_IsIn) (.type "BaseException") = some true)
    (xt_IsIn : PySem.W.typeIn K (.ref C_IsIn) = some (.type "type"))
    (xv_IsIn : PySem.W.subIn K (.ref C_IsIn) (.type "ValueError") = some true)
    (xg_IsIn : PySem.W.findIn K (.ref C_IsIn) "__getattribute__" = some (some (.builtin "BaseException.__getattribute__")))
    (xh_IsIn : PySem.W.findIn K (.ref C_IsIn) "__getattr__" = some none)
    {C_NoRule : Addr}
    (aC_NoRule : PySem.W.nsIn K mainGlobals "NoRule" = some (some (.ref C_NoRule)))
    (ha_NoRule : PySem.W.findIn K (.ref C_NoRule) "__class__" = some (some (.builtin "object.__class__")))
    (hm_NoRule : PySem.W.mroIn K C_NoRule (.type "object") = some true)
    (hd_NoRule : PySem.W.hasDictIn K C_NoRule = true)
    (kc_NoRule : PySem.W.keepIn K (.ref C_NoRule) = true)
    (xx_NoRule : PySem.W.excIn K C_NoRule R.veB "ValueError.__new__" = true)
    (xb_NoRule : PySem.W.subIn K (.ref C_NoRule) (.type "BaseException") = some true)
    (xt_NoRule : PySem.W.typeIn K (.ref C_NoRule) = some (.type "type"))
    (xv_NoRule : PySem.W.subIn K (.ref C_NoRule) (.type "ValueError") = some true)
    (xg_NoRule : PySem.W.findIn K (.ref C_NoRule) "__getattribute__" = some (some (.builtin "BaseException.__getattribute__")))
    (xh_NoRule : PySem.W.findIn K (.ref C_NoRule) "__getattr__" = some none)
    {C_NoTry : Addr}
    (aC_NoTry : PySem.W.nsIn K mainGlobals "NoTry" = some (some (.ref C_NoTry)))
    (ha_NoTry : PySem.W.findIn K (.ref C_NoTry) "__class__" = some (some (.builtin "object.__class__")))
    (hm_NoTry : PySem.W.mroIn K C_NoTry (.type "object") = some true)
    (hd_NoTry : PySem.W.hasDictIn K C_NoTry = true)
    (kc_NoTry : PySem.W.keepIn K (.ref C_NoTry) = true)
    (xx_NoTry : PySem.W.excIn K C_NoTry R.veB "ValueError.__new__" = true)
    (xb_NoTry : PySem.W.subIn K (.ref C_NoTry) (.type "BaseException") = some true)
    (xt_NoTry : PySem.W.typeIn K (.ref C_NoTry) = some (.type "type"))
    (xv_NoTry : PySem.W.subIn K (.ref C_NoTry) (.type "ValueError") = some true)
    (xg_NoTry : PySem.W.findIn K (.ref C_NoTry) "__getattribute__" = some (some (.builtin "BaseException.__getattribute__")))
    (xh_NoTry : PySem.W.findIn K (.ref C_NoTry) "__getattr__" = some none)
    {C_NoMoment : Addr}
    (aC_NoMoment : PySem.W.nsIn K mainGlobals "NoMoment" = some (some (.ref C_NoMoment)))
    (ha_NoMoment : PySem.W.findIn K (.ref C_NoMoment) "__class__" = some (some (.builtin "object.__class__")))
    (hm_NoMoment : PySem.W.mroIn K C_NoMoment (.type "object") = some true)
    (hd_NoMoment : PySem.W.hasDictIn K C_NoMoment = true)
    (kc_NoMoment : PySem.W.keepIn K (.ref C_NoMoment) = true)
    (xx_NoMoment : PySem.W.excIn K C_NoMoment R.veB "ValueError.__new__" = true)
    (xb_NoMoment : PySem.W.subIn K (.ref C_NoMoment) (.type "BaseException") = some true)
    (xt_NoMoment : PySem.W.typeIn K (.ref C_NoMoment) = some (.type "type"))
    (xv_NoMoment : PySem.W.subIn K (.ref C_NoMoment) (.type "ValueError") = some true)
    (xg_NoMoment : PySem.W.findIn K (.ref C_NoMoment) "__getattribute__" = some (some (.builtin "BaseException.__getattribute__")))
    (xh_NoMoment : PySem.W.findIn K (.ref C_NoMoment) "__getattr__" = some none)
    {C_NoLoan : Addr}
    (aC_NoLoan : PySem.W.nsIn K mainGlobals "NoLoan" = some (some (.ref C_NoLoan)))
    (ha_NoLoan : PySem.W.findIn K (.ref C_NoLoan) "__class__" = some (some (.builtin "object.__class__")))
    (hm_NoLoan : PySem.W.mroIn K C_NoLoan (.type "object") = some true)
    (hd_NoLoan : PySem.W.hasDictIn K C_NoLoan = true)
    (kc_NoLoan : PySem.W.keepIn K (.ref C_NoLoan) = true)
    (xx_NoLoan : PySem.W.excIn K C_NoLoan R.veB "ValueError.__new__" = true)
    (xb_NoLoan : PySem.W.subIn K (.ref C_NoLoan) (.type "BaseException") = some true)
    (xt_NoLoan : PySem.W.typeIn K (.ref C_NoLoan) = some (.type "type"))
    (xv_NoLoan : PySem.W.subIn K (.ref C_NoLoan) (.type "ValueError") = some true)
    (xg_NoLoan : PySem.W.findIn K (.ref C_NoLoan) "__getattribute__" = some (some (.builtin "BaseException.__getattribute__")))
    (xh_NoLoan : PySem.W.findIn K (.ref C_NoLoan) "__getattr__" = some none)
    {C_Late : Addr}
    (aC_Late : PySem.W.nsIn K mainGlobals "Late" = some (some (.ref C_Late)))
    (ha_Late : PySem.W.findIn K (.ref C_Late) "__class__" = some (some (.builtin "object.__class__")))
    (hm_Late : PySem.W.mroIn K C_Late (.type "object") = some true)
    (hd_Late : PySem.W.hasDictIn K C_Late = true)
    (kc_Late : PySem.W.keepIn K (.ref C_Late) = true)
    (xx_Late : PySem.W.excIn K C_Late R.veB "ValueError.__new__" = true)
    (xb_Late : PySem.W.subIn K (.ref C_Late) (.type "BaseException") = some true)
    (xt_Late : PySem.W.typeIn K (.ref C_Late) = some (.type "type"))
    (xv_Late : PySem.W.subIn K (.ref C_Late) (.type "ValueError") = some true)
    (xg_Late : PySem.W.findIn K (.ref C_Late) "__getattribute__" = some (some (.builtin "BaseException.__getattribute__")))
    (xh_Late : PySem.W.findIn K (.ref C_Late) "__getattr__" = some none)
    {C_NoWhy : Addr}
    (aC_NoWhy : PySem.W.nsIn K mainGlobals "NoWhy" = some (some (.ref C_NoWhy)))
    (ha_NoWhy : PySem.W.findIn K (.ref C_NoWhy) "__class__" = some (some (.builtin "object.__class__")))
    (hm_NoWhy : PySem.W.mroIn K C_NoWhy (.type "object") = some true)
    (hd_NoWhy : PySem.W.hasDictIn K C_NoWhy = true)
    (kc_NoWhy : PySem.W.keepIn K (.ref C_NoWhy) = true)
    (xx_NoWhy : PySem.W.excIn K C_NoWhy R.veB "ValueError.__new__" = true)
    (xb_NoWhy : PySem.W.subIn K (.ref C_NoWhy) (.type "BaseException") = some true)
    (xt_NoWhy : PySem.W.typeIn K (.ref C_NoWhy) = some (.type "type"))
    (xv_NoWhy : PySem.W.subIn K (.ref C_NoWhy) (.type "ValueError") = some true)
    (xg_NoWhy : PySem.W.findIn K (.ref C_NoWhy) "__getattribute__" = some (some (.builtin "BaseException.__getattribute__")))
    (xh_NoWhy : PySem.W.findIn K (.ref C_NoWhy) "__getattr__" = some none)
    {C_NoText : Addr}
    (aC_NoText : PySem.W.nsIn K mainGlobals "NoText" = some (some (.ref C_NoText)))
    (ha_NoText : PySem.W.findIn K (.ref C_NoText) "__class__" = some (some (.builtin "object.__class__")))
    (hm_NoText : PySem.W.mroIn K C_NoText (.type "object") = some true)
    (hd_NoText : PySem.W.hasDictIn K C_NoText = true)
    (kc_NoText : PySem.W.keepIn K (.ref C_NoText) = true)
    (xx_NoText : PySem.W.excIn K C_NoText R.veB "ValueError.__new__" = true)
    (xb_NoText : PySem.W.subIn K (.ref C_NoText) (.type "BaseException") = some true)
    (xt_NoText : PySem.W.typeIn K (.ref C_NoText) = some (.type "type"))
    (xv_NoText : PySem.W.subIn K (.ref C_NoText) (.type "ValueError") = some true)
    (xg_NoText : PySem.W.findIn K (.ref C_NoText) "__getattribute__" = some (some (.builtin "BaseException.__getattribute__")))
    (xh_NoText : PySem.W.findIn K (.ref C_NoText) "__getattr__" = some none)
    {C_NoRow : Addr}
    (aC_NoRow : PySem.W.nsIn K mainGlobals "NoRow" = some (some (.ref C_NoRow)))
    (ha_NoRow : PySem.W.findIn K (.ref C_NoRow) "__class__" = some (some (.builtin "object.__class__")))
    (hm_NoRow : PySem.W.mroIn K C_NoRow (.type "object") = some true)
    (hd_NoRow : PySem.W.hasDictIn K C_NoRow = true)
    (kc_NoRow : PySem.W.keepIn K (.ref C_NoRow) = true)
    (xx_NoRow : PySem.W.excIn K C_NoRow R.veB "ValueError.__new__" = true)
    (xb_NoRow : PySem.W.subIn K (.ref C_NoRow) (.type "BaseException") = some true)
    (xt_NoRow : PySem.W.typeIn K (.ref C_NoRow) = some (.type "type"))
    (xv_NoRow : PySem.W.subIn K (.ref C_NoRow) (.type "ValueError") = some true)
    (xg_NoRow : PySem.W.findIn K (.ref C_NoRow) "__getattribute__" = some (some (.builtin "BaseException.__getattribute__")))
    (xh_NoRow : PySem.W.findIn K (.ref C_NoRow) "__getattr__" = some none)
    {C_Card : Addr}
    (aC_Card : PySem.W.nsIn K mainGlobals "Card" = some (some (.ref C_Card)))
    (ha_Card : PySem.W.findIn K (.ref C_Card) "__class__" = some (some (.builtin "object.__class__")))
    (hm_Card : PySem.W.mroIn K C_Card (.type "object") = some true)
    (hd_Card : PySem.W.hasDictIn K C_Card = true)
    (kc_Card : PySem.W.keepIn K (.ref C_Card) = true)
    (pg_Card : PySem.W.plainGet K C_Card Str.empty = true)
    (po_Card : PySem.W.plainOver K C_Card = true)
    (sa_Card : PySem.W.findIn K (.ref C_Card) "__setattr__" = some (some (.builtin "object.__setattr__")))
    (mk_Card : PySem.W.makesIn K C_Card = true)
    {fICard : Addr} {odICard anICard : Option Addr} {slICard : Array (Option Value)} {ocICard kVICard dcICard pmICard cdICard ctICard : Value}
    (aICard : PySem.W.findIn K (.ref C_Card) "__init__" = some (some (.ref fICard)))
    (iICard : PySem.W.isFn K (.ref fICard) = true)
    (lICard : K.lookup fICard = some ⟨ocICard, odICard, .func (PySem.W.fnOf "__init__" "Card.__init__" (defArgs (inClass (topS 34) 0)) (defBody (inClass (topS 34) 0)) (defScope (inClass (topS 34) 0)) .none kVICard dcICard pmICard anICard cdICard ctICard), slICard⟩)
    (cICard : PySem.W.codeIn K cdICard "Card.__init__" = true)
    (kICard : PySem.W.keepIn K (.ref fICard) = true)
    {fMCard_moved : Addr} {odMCard_moved anMCard_moved : Option Addr} {slMCard_moved : Array (Option Value)} {ocMCard_moved kVMCard_moved dcMCard_moved pmMCard_moved cdMCard_moved ctMCard_moved : Value}
    (aMCard_moved : PySem.W.findIn K (.ref C_Card) "moved" = some (some (.ref fMCard_moved)))
    (iMCard_moved : PySem.W.isFn K (.ref fMCard_moved) = true)
    (lMCard_moved : K.lookup fMCard_moved = some ⟨ocMCard_moved, odMCard_moved, .func (PySem.W.fnOf "moved" "Card.moved" (defArgs (inClass (topS 34) 1)) (defBody (inClass (topS 34) 1)) (defScope (inClass (topS 34) 1)) .none kVMCard_moved dcMCard_moved pmMCard_moved anMCard_moved cdMCard_moved ctMCard_moved), slMCard_moved⟩)
    (cMCard_moved : PySem.W.codeIn K cdMCard_moved "Card.moved" = true)
    (kMCard_moved : PySem.W.keepIn K (.ref fMCard_moved) = true)
    {fMCard_tried : Addr} {odMCard_tried anMCard_tried : Option Addr} {slMCard_tried : Array (Option Value)} {ocMCard_tried kVMCard_tried dcMCard_tried pmMCard_tried cdMCard_tried ctMCard_tried : Value}
    (aMCard_tried : PySem.W.findIn K (.ref C_Card) "tried" = some (some (.ref fMCard_tried)))
    (iMCard_tried : PySem.W.isFn K (.ref fMCard_tried) = true)
    (lMCard_tried : K.lookup fMCard_tried = some ⟨ocMCard_tried, odMCard_tried, .func (PySem.W.fnOf "tried" "Card.tried" (defArgs (inClass (topS 34) 3)) (defBody (inClass (topS 34) 3)) (defScope (inClass (topS 34) 3)) .none kVMCard_tried dcMCard_tried pmMCard_tried anMCard_tried cdMCard_tried ctMCard_tried), slMCard_tried⟩)
    (cMCard_tried : PySem.W.codeIn K cdMCard_tried "Card.tried" = true)
    (kMCard_tried : PySem.W.keepIn K (.ref fMCard_tried) = true)
    {fMCard_ended : Addr} {odMCard_ended anMCard_ended : Option Addr} {slMCard_ended : Array (Option Value)} {ocMCard_ended kVMCard_ended dcMCard_ended pmMCard_ended cdMCard_ended ctMCard_ended : Value}
    (aMCard_ended : PySem.W.findIn K (.ref C_Card) "ended" = some (some (.ref fMCard_ended)))
    (iMCard_ended : PySem.W.isFn K (.ref fMCard_ended) = true)
    (lMCard_ended : K.lookup fMCard_ended = some ⟨ocMCard_ended, odMCard_ended, .func (PySem.W.fnOf "ended" "Card.ended" (defArgs (inClass (topS 34) 4)) (defBody (inClass (topS 34) 4)) (defScope (inClass (topS 34) 4)) .none kVMCard_ended dcMCard_ended pmMCard_ended anMCard_ended cdMCard_ended ctMCard_ended), slMCard_ended⟩)
    (cMCard_ended : PySem.W.codeIn K cdMCard_ended "Card.ended" = true)
    (kMCard_ended : PySem.W.keepIn K (.ref fMCard_ended) = true)
    (n_Card_work : PySem.W.findIn K (.ref C_Card) "work" = some none)
    (n_Card_number : PySem.W.findIn K (.ref C_Card) "number" = some none)
    (n_Card_ready : PySem.W.findIn K (.ref C_Card) "ready" = some none)
    (n_Card_place : PySem.W.findIn K (.ref C_Card) "place" = some none)
    (n_Card_tries : PySem.W.findIn K (.ref C_Card) "tries" = some none)
    (n_Card_last : PySem.W.findIn K (.ref C_Card) "last" = some none)
    (n_Card_since : PySem.W.findIn K (.ref C_Card) "since" = some none)
    {C_Work : Addr}
    (aC_Work : PySem.W.nsIn K mainGlobals "Work" = some (some (.ref C_Work)))
    (ha_Work : PySem.W.findIn K (.ref C_Work) "__class__" = some (some (.builtin "object.__class__")))
    (hm_Work : PySem.W.mroIn K C_Work (.type "object") = some true)
    (hd_Work : PySem.W.hasDictIn K C_Work = true)
    (kc_Work : PySem.W.keepIn K (.ref C_Work) = true)
    (pg_Work : PySem.W.plainGet K C_Work Str.empty = true)
    (po_Work : PySem.W.plainOver K C_Work = true)
    (sa_Work : PySem.W.findIn K (.ref C_Work) "__setattr__" = some (some (.builtin "object.__setattr__")))
    (mk_Work : PySem.W.makesIn K C_Work = true)
    {fIWork : Addr} {odIWork anIWork : Option Addr} {slIWork : Array (Option Value)} {ocIWork kVIWork dcIWork pmIWork cdIWork ctIWork : Value}
    (aIWork : PySem.W.findIn K (.ref C_Work) "__init__" = some (some (.ref fIWork)))
    (iIWork : PySem.W.isFn K (.ref fIWork) = true)
    (lIWork : K.lookup fIWork = some ⟨ocIWork, odIWork, .func (PySem.W.fnOf "__init__" "Work.__init__" (defArgs (inClass (topS 46) 0)) (defBody (inClass (topS 46) 0)) (defScope (inClass (topS 46) 0)) .none kVIWork dcIWork pmIWork anIWork cdIWork ctIWork), slIWork⟩)
    (cIWork : PySem.W.codeIn K cdIWork "Work.__init__" = true)
    (kIWork : PySem.W.keepIn K (.ref fIWork) = true)
    {fMWork_told : Addr} {odMWork_told anMWork_told : Option Addr} {slMWork_told : Array (Option Value)} {ocMWork_told kVMWork_told dcMWork_told pmMWork_told cdMWork_told ctMWork_told : Value}
    (aMWork_told : PySem.W.findIn K (.ref C_Work) "told" = some (some (.ref fMWork_told)))
    (iMWork_told : PySem.W.isFn K (.ref fMWork_told) = true)
    (lMWork_told : K.lookup fMWork_told = some ⟨ocMWork_told, odMWork_told, .func (PySem.W.fnOf "told" "Work.told" (defArgs (inClass (topS 46) 1)) (defBody (inClass (topS 46) 1)) (defScope (inClass (topS 46) 1)) .none kVMWork_told dcMWork_told pmMWork_told anMWork_told cdMWork_told ctMWork_told), slMWork_told⟩)
    (cMWork_told : PySem.W.codeIn K cdMWork_told "Work.told" = true)
    (kMWork_told : PySem.W.keepIn K (.ref fMWork_told) = true)
    (n_Work_name : PySem.W.findIn K (.ref C_Work) "name" = some none)
    (n_Work_house : PySem.W.findIn K (.ref C_Work) "house" = some none)
    (n_Work_ready : PySem.W.findIn K (.ref C_Work) "ready" = some none)
    (n_Work_group : PySem.W.findIn K (.ref C_Work) "group" = some none)
    (n_Work_place : PySem.W.findIn K (.ref C_Work) "place" = some none)
    {C_Loose : Addr}
    (aC_Loose : PySem.W.nsIn K mainGlobals "Loose" = some (some (.ref C_Loose)))
    (ha_Loose : PySem.W.findIn K (.ref C_Loose) "__class__" = some (some (.builtin "object.__class__")))
    (hm_Loose : PySem.W.mroIn K C_Loose (.type "object") = some true)
    (hd_Loose : PySem.W.hasDictIn K C_Loose = true)
    (kc_Loose : PySem.W.keepIn K (.ref C_Loose) = true)
    (pg_Loose : PySem.W.plainGet K C_Loose Str.empty = true)
    (po_Loose : PySem.W.plainOver K C_Loose = true)
    (sa_Loose : PySem.W.findIn K (.ref C_Loose) "__setattr__" = some (some (.builtin "object.__setattr__")))
    (mk_Loose : PySem.W.makesIn K C_Loose = true)
    {fILoose : Addr} {odILoose anILoose : Option Addr} {slILoose : Array (Option Value)} {ocILoose kVILoose dcILoose pmILoose cdILoose ctILoose : Value}
    (aILoose : PySem.W.findIn K (.ref C_Loose) "__init__" = some (some (.ref fILoose)))
    (iILoose : PySem.W.isFn K (.ref fILoose) = true)
    (lILoose : K.lookup fILoose = some ⟨ocILoose, odILoose, .func (PySem.W.fnOf "__init__" "Work.__init__" (defArgs (inClass (topS 46) 0)) (defBody (inClass (topS 46) 0)) (defScope (inClass (topS 46) 0)) .none kVILoose dcILoose pmILoose anILoose cdILoose ctILoose), slILoose⟩)
    (cILoose : PySem.W.codeIn K cdILoose "Work.__init__" = true)
    (kILoose : PySem.W.keepIn K (.ref fILoose) = true)
    {fMLoose_told : Addr} {odMLoose_told anMLoose_told : Option Addr} {slMLoose_told : Array (Option Value)} {ocMLoose_told kVMLoose_told dcMLoose_told pmMLoose_told cdMLoose_told ctMLoose_told : Value}
    (aMLoose_told : PySem.W.findIn K (.ref C_Loose) "told" = some (some (.ref fMLoose_told)))
    (iMLoose_told : PySem.W.isFn K (.ref fMLoose_told) = true)
    (lMLoose_told : K.lookup fMLoose_told = some ⟨ocMLoose_told, odMLoose_told, .func (PySem.W.fnOf "told" "Work.told" (defArgs (inClass (topS 46) 1)) (defBody (inClass (topS 46) 1)) (defScope (inClass (topS 46) 1)) .none kVMLoose_told dcMLoose_told pmMLoose_told anMLoose_told cdMLoose_told ctMLoose_told), slMLoose_told⟩)
    (cMLoose_told : PySem.W.codeIn K cdMLoose_told "Work.told" = true)
    (kMLoose_told : PySem.W.keepIn K (.ref fMLoose_told) = true)
    (n_Loose_name : PySem.W.findIn K (.ref C_Loose) "name" = some none)
    (n_Loose_house : PySem.W.findIn K (.ref C_Loose) "house" = some none)
    (n_Loose_ready : PySem.W.findIn K (.ref C_Loose) "ready" = some none)
    (n_Loose_group : PySem.W.findIn K (.ref C_Loose) "group" = some none)
    (n_Loose_place : PySem.W.findIn K (.ref C_Loose) "place" = some none)
    {C_Grouped : Addr}
    (aC_Grouped : PySem.W.nsIn K mainGlobals "Grouped" = some (some (.ref C_Grouped)))
    (ha_Grouped : PySem.W.findIn K (.ref C_Grouped) "__class__" = some (some (.builtin "object.__class__")))
    (hm_Grouped : PySem.W.mroIn K C_Grouped (.type "object") = some true)
    (hd_Grouped : PySem.W.hasDictIn K C_Grouped = true)
    (kc_Grouped : PySem.W.keepIn K (.ref C_Grouped) = true)
    (pg_Grouped : PySem.W.plainGet K C_Grouped Str.empty = true)
    (po_Grouped : PySem.W.plainOver K C_Grouped = true)
    (sa_Grouped : PySem.W.findIn K (.ref C_Grouped) "__setattr__" = some (some (.builtin "object.__setattr__")))
    (mk_Grouped : PySem.W.makesIn K C_Grouped = true)
    {fIGrouped : Addr} {odIGrouped anIGrouped : Option Addr} {slIGrouped : Array (Option Value)} {ocIGrouped kVIGrouped dcIGrouped pmIGrouped cdIGrouped ctIGrouped : Value}
    (aIGrouped : PySem.W.findIn K (.ref C_Grouped) "__init__" = some (some (.ref fIGrouped)))
    (iIGrouped : PySem.W.isFn K (.ref fIGrouped) = true)
    (lIGrouped : K.lookup fIGrouped = some ⟨ocIGrouped, odIGrouped, .func (PySem.W.fnOf "__init__" "Work.__init__" (defArgs (inClass (topS 46) 0)) (defBody (inClass (topS 46) 0)) (defScope (inClass (topS 46) 0)) .none kVIGrouped dcIGrouped pmIGrouped anIGrouped cdIGrouped ctIGrouped), slIGrouped⟩)
    (cIGrouped : PySem.W.codeIn K cdIGrouped "Work.__init__" = true)
    (kIGrouped : PySem.W.keepIn K (.ref fIGrouped) = true)
    {fMGrouped_told : Addr} {odMGrouped_told anMGrouped_told : Option Addr} {slMGrouped_told : Array (Option Value)} {ocMGrouped_told kVMGrouped_told dcMGrouped_told pmMGrouped_told cdMGrouped_told ctMGrouped_told : Value}
    (aMGrouped_told : PySem.W.findIn K (.ref C_Grouped) "told" = some (some (.ref fMGrouped_told)))
    (iMGrouped_told : PySem.W.isFn K (.ref fMGrouped_told) = true)
    (lMGrouped_told : K.lookup fMGrouped_told = some ⟨ocMGrouped_told, odMGrouped_told, .func (PySem.W.fnOf "told" "Work.told" (defArgs (inClass (topS 46) 1)) (defBody (inClass (topS 46) 1)) (defScope (inClass (topS 46) 1)) .none kVMGrouped_told dcMGrouped_told pmMGrouped_told anMGrouped_told cdMGrouped_told ctMGrouped_told), slMGrouped_told⟩)
    (cMGrouped_told : PySem.W.codeIn K cdMGrouped_told "Work.told" = true)
    (kMGrouped_told : PySem.W.keepIn K (.ref fMGrouped_told) = true)
    (n_Grouped_name : PySem.W.findIn K (.ref C_Grouped) "name" = some none)
    (n_Grouped_house : PySem.W.findIn K (.ref C_Grouped) "house" = some none)
    (n_Grouped_ready : PySem.W.findIn K (.ref C_Grouped) "ready" = some none)
    (n_Grouped_group : PySem.W.findIn K (.ref C_Grouped) "group" = some none)
    (n_Grouped_place : PySem.W.findIn K (.ref C_Grouped) "place" = some none)
    {C_Row : Addr}
    (aC_Row : PySem.W.nsIn K mainGlobals "Row" = some (some (.ref C_Row)))
    (ha_Row : PySem.W.findIn K (.ref C_Row) "__class__" = some (some (.builtin "object.__class__")))
    (hm_Row : PySem.W.mroIn K C_Row (.type "object") = some true)
    (hd_Row : PySem.W.hasDictIn K C_Row = true)
    (kc_Row : PySem.W.keepIn K (.ref C_Row) = true)
    (pg_Row : PySem.W.plainGet K C_Row Str.empty = true)
    (po_Row : PySem.W.plainOver K C_Row = true)
    (sa_Row : PySem.W.findIn K (.ref C_Row) "__setattr__" = some (some (.builtin "object.__setattr__")))
    (mk_Row : PySem.W.makesIn K C_Row = true)
    {fIRow : Addr} {odIRow anIRow : Option Addr} {slIRow : Array (Option Value)} {ocIRow kVIRow dcIRow pmIRow cdIRow ctIRow : Value}
    (aIRow : PySem.W.findIn K (.ref C_Row) "__init__" = some (some (.ref fIRow)))
    (iIRow : PySem.W.isFn K (.ref fIRow) = true)
    (lIRow : K.lookup fIRow = some ⟨ocIRow, odIRow, .func (PySem.W.fnOf "__init__" "Row.__init__" (defArgs (inClass (topS 52) 0)) (defBody (inClass (topS 52) 0)) (defScope (inClass (topS 52) 0)) .none kVIRow dcIRow pmIRow anIRow cdIRow ctIRow), slIRow⟩)
    (cIRow : PySem.W.codeIn K cdIRow "Row.__init__" = true)
    (kIRow : PySem.W.keepIn K (.ref fIRow) = true)
    {fMRow_twin : Addr} {odMRow_twin anMRow_twin : Option Addr} {slMRow_twin : Array (Option Value)} {ocMRow_twin kVMRow_twin dcMRow_twin pmMRow_twin cdMRow_twin ctMRow_twin : Value}
    (aMRow_twin : PySem.W.findIn K (.ref C_Row) "twin" = some (some (.ref fMRow_twin)))
    (iMRow_twin : PySem.W.isFn K (.ref fMRow_twin) = true)
    (lMRow_twin : K.lookup fMRow_twin = some ⟨ocMRow_twin, odMRow_twin, .func (PySem.W.fnOf "twin" "Row.twin" (defArgs (inClass (topS 52) 1)) (defBody (inClass (topS 52) 1)) (defScope (inClass (topS 52) 1)) .none kVMRow_twin dcMRow_twin pmMRow_twin anMRow_twin cdMRow_twin ctMRow_twin), slMRow_twin⟩)
    (cMRow_twin : PySem.W.codeIn K cdMRow_twin "Row.twin" = true)
    (kMRow_twin : PySem.W.keepIn K (.ref fMRow_twin) = true)
    {fMRow_become : Addr} {odMRow_become anMRow_become : Option Addr} {slMRow_become : Array (Option Value)} {ocMRow_become kVMRow_become dcMRow_become pmMRow_become cdMRow_become ctMRow_become : Value}
    (aMRow_become : PySem.W.findIn K (.ref C_Row) "become" = some (some (.ref fMRow_become)))
    (iMRow_become : PySem.W.isFn K (.ref fMRow_become) = true)
    (lMRow_become : K.lookup fMRow_become = some ⟨ocMRow_become, odMRow_become, .func (PySem.W.fnOf "become" "Row.become" (defArgs (inClass (topS 52) 2)) (defBody (inClass (topS 52) 2)) (defScope (inClass (topS 52) 2)) .none kVMRow_become dcMRow_become pmMRow_become anMRow_become cdMRow_become ctMRow_become), slMRow_become⟩)
    (cMRow_become : PySem.W.codeIn K cdMRow_become "Row.become" = true)
    (kMRow_become : PySem.W.keepIn K (.ref fMRow_become) = true)
    {fMRow_ahead : Addr} {odMRow_ahead anMRow_ahead : Option Addr} {slMRow_ahead : Array (Option Value)} {ocMRow_ahead kVMRow_ahead dcMRow_ahead pmMRow_ahead cdMRow_ahead ctMRow_ahead : Value}
    (aMRow_ahead : PySem.W.findIn K (.ref C_Row) "ahead" = some (some (.ref fMRow_ahead)))
    (iMRow_ahead : PySem.W.isFn K (.ref fMRow_ahead) = true)
    (lMRow_ahead : K.lookup fMRow_ahead = some ⟨ocMRow_ahead, odMRow_ahead, .func (PySem.W.fnOf "ahead" "Row.ahead" (defArgs (inClass (topS 52) 3)) (defBody (inClass (topS 52) 3)) (defScope (inClass (topS 52) 3)) .none kVMRow_ahead dcMRow_ahead pmMRow_ahead anMRow_ahead cdMRow_ahead ctMRow_ahead), slMRow_ahead⟩)
    (cMRow_ahead : PySem.W.codeIn K cdMRow_ahead "Row.ahead" = true)
    (kMRow_ahead : PySem.W.keepIn K (.ref fMRow_ahead) = true)
    {fMRow_by_end : Addr} {odMRow_by_end anMRow_by_end : Option Addr} {slMRow_by_end : Array (Option Value)} {ocMRow_by_end kVMRow_by_end dcMRow_by_end pmMRow_by_end cdMRow_by_end ctMRow_by_end : Value}
    (aMRow_by_end : PySem.W.findIn K (.ref C_Row) "by_end" = some (some (.ref fMRow_by_end)))
    (iMRow_by_end : PySem.W.isFn K (.ref fMRow_by_end) = true)
    (lMRow_by_end : K.lookup fMRow_by_end = some ⟨ocMRow_by_end, odMRow_by_end, .func (PySem.W.fnOf "by_end" "Row.by_end" (defArgs (inClass (topS 52) 4)) (defBody (inClass (topS 52) 4)) (defScope (inClass (topS 52) 4)) .none kVMRow_by_end dcMRow_by_end pmMRow_by_end anMRow_by_end cdMRow_by_end ctMRow_by_end), slMRow_by_end⟩)
    (cMRow_by_end : PySem.W.codeIn K cdMRow_by_end "Row.by_end" = true)
    (kMRow_by_end : PySem.W.keepIn K (.ref fMRow_by_end) = true)
    {fMRow_pass_to : Addr} {odMRow_pass_to anMRow_pass_to : Option Addr} {slMRow_pass_to : Array (Option Value)} {ocMRow_pass_to kVMRow_pass_to dcMRow_pass_to pmMRow_pass_to cdMRow_pass_to ctMRow_pass_to : Value}
    (aMRow_pass_to : PySem.W.findIn K (.ref C_Row) "pass_to" = some (some (.ref fMRow_pass_to)))
    (iMRow_pass_to : PySem.W.isFn K (.ref fMRow_pass_to) = true)
    (lMRow_pass_to : K.lookup fMRow_pass_to = some ⟨ocMRow_pass_to, odMRow_pass_to, .func (PySem.W.fnOf "pass_to" "Row.pass_to" (defArgs (inClass (topS 52) 5)) (defBody (inClass (topS 52) 5)) (defScope (inClass (topS 52) 5)) .none kVMRow_pass_to dcMRow_pass_to pmMRow_pass_to anMRow_pass_to cdMRow_pass_to ctMRow_pass_to), slMRow_pass_to⟩)
    (cMRow_pass_to : PySem.W.codeIn K cdMRow_pass_to "Row.pass_to" = true)
    (kMRow_pass_to : PySem.W.keepIn K (.ref fMRow_pass_to) = true)
    {fMRow_run_out : Addr} {odMRow_run_out anMRow_run_out : Option Addr} {slMRow_run_out : Array (Option Value)} {ocMRow_run_out kVMRow_run_out dcMRow_run_out pmMRow_run_out cdMRow_run_out ctMRow_run_out : Value}
    (aMRow_run_out : PySem.W.findIn K (.ref C_Row) "run_out" = some (some (.ref fMRow_run_out)))
    (iMRow_run_out : PySem.W.isFn K (.ref fMRow_run_out) = true)
    (lMRow_run_out : K.lookup fMRow_run_out = some ⟨ocMRow_run_out, odMRow_run_out, .func (PySem.W.fnOf "run_out" "Row.run_out" (defArgs (inClass (topS 52) 6)) (defBody (inClass (topS 52) 6)) (defScope (inClass (topS 52) 6)) .none kVMRow_run_out dcMRow_run_out pmMRow_run_out anMRow_run_out cdMRow_run_out ctMRow_run_out), slMRow_run_out⟩)
    (cMRow_run_out : PySem.W.codeIn K cdMRow_run_out "Row.run_out" = true)
    (kMRow_run_out : PySem.W.keepIn K (.ref fMRow_run_out) = true)
    {fMRow_is_out : Addr} {odMRow_is_out anMRow_is_out : Option Addr} {slMRow_is_out : Array (Option Value)} {ocMRow_is_out kVMRow_is_out dcMRow_is_out pmMRow_is_out cdMRow_is_out ctMRow_is_out : Value}
    (aMRow_is_out : PySem.W.findIn K (.ref C_Row) "is_out" = some (some (.ref fMRow_is_out)))
    (iMRow_is_out : PySem.W.isFn K (.ref fMRow_is_out) = true)
    (lMRow_is_out : K.lookup fMRow_is_out = some ⟨ocMRow_is_out, odMRow_is_out, .func (PySem.W.fnOf "is_out" "Row.is_out" (defArgs (inClass (topS 52) 7)) (defBody (inClass (topS 52) 7)) (defScope (inClass (topS 52) 7)) .none kVMRow_is_out dcMRow_is_out pmMRow_is_out anMRow_is_out cdMRow_is_out ctMRow_is_out), slMRow_is_out⟩)
    (cMRow_is_out : PySem.W.codeIn K cdMRow_is_out "Row.is_out" = true)
    (kMRow_is_out : PySem.W.keepIn K (.ref fMRow_is_out) = true)
    {fMRow_end_try : Addr} {odMRow_end_try anMRow_end_try : Option Addr} {slMRow_end_try : Array (Option Value)} {ocMRow_end_try kVMRow_end_try dcMRow_end_try pmMRow_end_try cdMRow_end_try ctMRow_end_try : Value}
    (aMRow_end_try : PySem.W.findIn K (.ref C_Row) "end_try" = some (some (.ref fMRow_end_try)))
    (iMRow_end_try : PySem.W.isFn K (.ref fMRow_end_try) = true)
    (lMRow_end_try : K.lookup fMRow_end_try = some ⟨ocMRow_end_try, odMRow_end_try, .func (PySem.W.fnOf "end_try" "Row.end_try" (defArgs (inClass (topS 52) 8)) (defBody (inClass (topS 52) 8)) (defScope (inClass (topS 52) 8)) .none kVMRow_end_try dcMRow_end_try pmMRow_end_try anMRow_end_try cdMRow_end_try ctMRow_end_try), slMRow_end_try⟩)
    (cMRow_end_try : PySem.W.codeIn K cdMRow_end_try "Row.end_try" = true)
    (kMRow_end_try : PySem.W.keepIn K (.ref fMRow_end_try) = true)
    {fMRow_end_work : Addr} {odMRow_end_work anMRow_end_work : Option Addr} {slMRow_end_work : Array (Option Value)} {ocMRow_end_work kVMRow_end_work dcMRow_end_work pmMRow_end_work cdMRow_end_work ctMRow_end_work : Value}
    (aMRow_end_work : PySem.W.findIn K (.ref C_Row) "end_work" = some (some (.ref fMRow_end_work)))
    (iMRow_end_work : PySem.W.isFn K (.ref fMRow_end_work) = true)
    (lMRow_end_work : K.lookup fMRow_end_work = some ⟨ocMRow_end_work, odMRow_end_work, .func (PySem.W.fnOf "end_work" "Row.end_work" (defArgs (inClass (topS 52) 9)) (defBody (inClass (topS 52) 9)) (defScope (inClass (topS 52) 9)) .none kVMRow_end_work dcMRow_end_work pmMRow_end_work anMRow_end_work cdMRow_end_work ctMRow_end_work), slMRow_end_work⟩)
    (cMRow_end_work : PySem.W.codeIn K cdMRow_end_work "Row.end_work" = true)
    (kMRow_end_work : PySem.W.keepIn K (.ref fMRow_end_work) = true)
    {fMRow_put : Addr} {odMRow_put anMRow_put : Option Addr} {slMRow_put : Array (Option Value)} {ocMRow_put kVMRow_put dcMRow_put pmMRow_put cdMRow_put ctMRow_put : Value}
    (aMRow_put : PySem.W.findIn K (.ref C_Row) "put" = some (some (.ref fMRow_put)))
    (iMRow_put : PySem.W.isFn K (.ref fMRow_put) = true)
    (lMRow_put : K.lookup fMRow_put = some ⟨ocMRow_put, odMRow_put, .func (PySem.W.fnOf "put" "Row.put" (defArgs (inClass (topS 52) 10)) (defBody (inClass (topS 52) 10)) (defScope (inClass (topS 52) 10)) .none kVMRow_put dcMRow_put pmMRow_put anMRow_put cdMRow_put ctMRow_put), slMRow_put⟩)
    (cMRow_put : PySem.W.codeIn K cdMRow_put "Row.put" = true)
    (kMRow_put : PySem.W.keepIn K (.ref fMRow_put) = true)
    {fMRow_loan_of : Addr} {odMRow_loan_of anMRow_loan_of : Option Addr} {slMRow_loan_of : Array (Option Value)} {ocMRow_loan_of kVMRow_loan_of dcMRow_loan_of pmMRow_loan_of cdMRow_loan_of ctMRow_loan_of : Value}
    (aMRow_loan_of : PySem.W.findIn K (.ref C_Row) "loan_of" = some (some (.ref fMRow_loan_of)))
    (iMRow_loan_of : PySem.W.isFn K (.ref fMRow_loan_of) = true)
    (lMRow_loan_of : K.lookup fMRow_loan_of = some ⟨ocMRow_loan_of, odMRow_loan_of, .func (PySem.W.fnOf "loan_of" "Row.loan_of" (defArgs (inClass (topS 52) 14)) (defBody (inClass (topS 52) 14)) (defScope (inClass (topS 52) 14)) .none kVMRow_loan_of dcMRow_loan_of pmMRow_loan_of anMRow_loan_of cdMRow_loan_of ctMRow_loan_of), slMRow_loan_of⟩)
    (cMRow_loan_of : PySem.W.codeIn K cdMRow_loan_of "Row.loan_of" = true)
    (kMRow_loan_of : PySem.W.keepIn K (.ref fMRow_loan_of) = true)
    {fMRow_done : Addr} {odMRow_done anMRow_done : Option Addr} {slMRow_done : Array (Option Value)} {ocMRow_done kVMRow_done dcMRow_done pmMRow_done cdMRow_done ctMRow_done : Value}
    (aMRow_done : PySem.W.findIn K (.ref C_Row) "done" = some (some (.ref fMRow_done)))
    (iMRow_done : PySem.W.isFn K (.ref fMRow_done) = true)
    (lMRow_done : K.lookup fMRow_done = some ⟨ocMRow_done, odMRow_done, .func (PySem.W.fnOf "done" "Row.done" (defArgs (inClass (topS 52) 16)) (defBody (inClass (topS 52) 16)) (defScope (inClass (topS 52) 16)) .none kVMRow_done dcMRow_done pmMRow_done anMRow_done cdMRow_done ctMRow_done), slMRow_done⟩)
    (cMRow_done : PySem.W.codeIn K cdMRow_done "Row.done" = true)
    (kMRow_done : PySem.W.keepIn K (.ref fMRow_done) = true)
    {fMRow_back : Addr} {odMRow_back anMRow_back : Option Addr} {slMRow_back : Array (Option Value)} {ocMRow_back kVMRow_back dcMRow_back pmMRow_back cdMRow_back ctMRow_back : Value}
    (aMRow_back : PySem.W.findIn K (.ref C_Row) "back" = some (some (.ref fMRow_back)))
    (iMRow_back : PySem.W.isFn K (.ref fMRow_back) = true)
    (lMRow_back : K.lookup fMRow_back = some ⟨ocMRow_back, odMRow_back, .func (PySem.W.fnOf "back" "Row.back" (defArgs (inClass (topS 52) 17)) (defBody (inClass (topS 52) 17)) (defScope (inClass (topS 52) 17)) .none kVMRow_back dcMRow_back pmMRow_back anMRow_back cdMRow_back ctMRow_back), slMRow_back⟩)
    (cMRow_back : PySem.W.codeIn K cdMRow_back "Row.back" = true)
    (kMRow_back : PySem.W.keepIn K (.ref fMRow_back) = true)
    {fMRow_sorted_cards : Addr} {odMRow_sorted_cards anMRow_sorted_cards : Option Addr} {slMRow_sorted_cards : Array (Option Value)} {ocMRow_sorted_cards kVMRow_sorted_cards dcMRow_sorted_cards pmMRow_sorted_cards cdMRow_sorted_cards ctMRow_sorted_cards : Value}
    (aMRow_sorted_cards : PySem.W.findIn K (.ref C_Row) "sorted_cards" = some (some (.ref fMRow_sorted_cards)))
    (iMRow_sorted_cards : PySem.W.isFn K (.ref fMRow_sorted_cards) = true)
    (lMRow_sorted_cards : K.lookup fMRow_sorted_cards = some ⟨ocMRow_sorted_cards, odMRow_sorted_cards, .func (PySem.W.fnOf "sorted_cards" "Row.sorted_cards" (defArgs (inClass (topS 52) 20)) (defBody (inClass (topS 52) 20)) (defScope (inClass (topS 52) 20)) .none kVMRow_sorted_cards dcMRow_sorted_cards pmMRow_sorted_cards anMRow_sorted_cards cdMRow_sorted_cards ctMRow_sorted_cards), slMRow_sorted_cards⟩)
    (cMRow_sorted_cards : PySem.W.codeIn K cdMRow_sorted_cards "Row.sorted_cards" = true)
    (kMRow_sorted_cards : PySem.W.keepIn K (.ref fMRow_sorted_cards) = true)
    {fMRow_in_place : Addr} {odMRow_in_place anMRow_in_place : Option Addr} {slMRow_in_place : Array (Option Value)} {ocMRow_in_place kVMRow_in_place dcMRow_in_place pmMRow_in_place cdMRow_in_place ctMRow_in_place : Value}
    (aMRow_in_place : PySem.W.findIn K (.ref C_Row) "in_place" = some (some (.ref fMRow_in_place)))
    (iMRow_in_place : PySem.W.isFn K (.ref fMRow_in_place) = true)
    (lMRow_in_place : K.lookup fMRow_in_place = some ⟨ocMRow_in_place, odMRow_in_place, .func (PySem.W.fnOf "in_place" "Row.in_place" (defArgs (inClass (topS 52) 21)) (defBody (inClass (topS 52) 21)) (defScope (inClass (topS 52) 21)) .none kVMRow_in_place dcMRow_in_place pmMRow_in_place anMRow_in_place cdMRow_in_place ctMRow_in_place), slMRow_in_place⟩)
    (cMRow_in_place : PySem.W.codeIn K cdMRow_in_place "Row.in_place" = true)
    (kMRow_in_place : PySem.W.keepIn K (.ref fMRow_in_place) = true)
    {fMRow_out : Addr} {odMRow_out anMRow_out : Option Addr} {slMRow_out : Array (Option Value)} {ocMRow_out kVMRow_out dcMRow_out pmMRow_out cdMRow_out ctMRow_out : Value}
    (aMRow_out : PySem.W.findIn K (.ref C_Row) "out" = some (some (.ref fMRow_out)))
    (iMRow_out : PySem.W.isFn K (.ref fMRow_out) = true)
    (lMRow_out : K.lookup fMRow_out = some ⟨ocMRow_out, odMRow_out, .func (PySem.W.fnOf "out" "Row.out" (defArgs (inClass (topS 52) 26)) (defBody (inClass (topS 52) 26)) (defScope (inClass (topS 52) 26)) .none kVMRow_out dcMRow_out pmMRow_out anMRow_out cdMRow_out ctMRow_out), slMRow_out⟩)
    (cMRow_out : PySem.W.codeIn K cdMRow_out "Row.out" = true)
    (kMRow_out : PySem.W.keepIn K (.ref fMRow_out) = true)
    {fMRow_ended : Addr} {odMRow_ended anMRow_ended : Option Addr} {slMRow_ended : Array (Option Value)} {ocMRow_ended kVMRow_ended dcMRow_ended pmMRow_ended cdMRow_ended ctMRow_ended : Value}
    (aMRow_ended : PySem.W.findIn K (.ref C_Row) "ended" = some (some (.ref fMRow_ended)))
    (iMRow_ended : PySem.W.isFn K (.ref fMRow_ended) = true)
    (lMRow_ended : K.lookup fMRow_ended = some ⟨ocMRow_ended, odMRow_ended, .func (PySem.W.fnOf "ended" "Row.ended" (defArgs (inClass (topS 52) 27)) (defBody (inClass (topS 52) 27)) (defScope (inClass (topS 52) 27)) .none kVMRow_ended dcMRow_ended pmMRow_ended anMRow_ended cdMRow_ended ctMRow_ended), slMRow_ended⟩)
    (cMRow_ended : PySem.W.codeIn K cdMRow_ended "Row.ended" = true)
    (kMRow_ended : PySem.W.keepIn K (.ref fMRow_ended) = true)
    {fMRow_aside : Addr} {odMRow_aside anMRow_aside : Option Addr} {slMRow_aside : Array (Option Value)} {ocMRow_aside kVMRow_aside dcMRow_aside pmMRow_aside cdMRow_aside ctMRow_aside : Value}
    (aMRow_aside : PySem.W.findIn K (.ref C_Row) "aside" = some (some (.ref fMRow_aside)))
    (iMRow_aside : PySem.W.isFn K (.ref fMRow_aside) = true)
    (lMRow_aside : K.lookup fMRow_aside = some ⟨ocMRow_aside, odMRow_aside, .func (PySem.W.fnOf "aside" "Row.aside" (defArgs (inClass (topS 52) 28)) (defBody (inClass (topS 52) 28)) (defScope (inClass (topS 52) 28)) .none kVMRow_aside dcMRow_aside pmMRow_aside anMRow_aside cdMRow_aside ctMRow_aside), slMRow_aside⟩)
    (cMRow_aside : PySem.W.codeIn K cdMRow_aside "Row.aside" = true)
    (kMRow_aside : PySem.W.keepIn K (.ref fMRow_aside) = true)
    {fMRow_counts : Addr} {odMRow_counts anMRow_counts : Option Addr} {slMRow_counts : Array (Option Value)} {ocMRow_counts kVMRow_counts dcMRow_counts pmMRow_counts cdMRow_counts ctMRow_counts : Value}
    (aMRow_counts : PySem.W.findIn K (.ref C_Row) "counts" = some (some (.ref fMRow_counts)))
    (iMRow_counts : PySem.W.isFn K (.ref fMRow_counts) = true)
    (lMRow_counts : K.lookup fMRow_counts = some ⟨ocMRow_counts, odMRow_counts, .func (PySem.W.fnOf "counts" "Row.counts" (defArgs (inClass (topS 52) 30)) (defBody (inClass (topS 52) 30)) (defScope (inClass (topS 52) 30)) .none kVMRow_counts dcMRow_counts pmMRow_counts anMRow_counts cdMRow_counts ctMRow_counts), slMRow_counts⟩)
    (cMRow_counts : PySem.W.codeIn K cdMRow_counts "Row.counts" = true)
    (kMRow_counts : PySem.W.keepIn K (.ref fMRow_counts) = true)
    {fMRow_card_of : Addr} {odMRow_card_of anMRow_card_of : Option Addr} {slMRow_card_of : Array (Option Value)} {ocMRow_card_of kVMRow_card_of dcMRow_card_of pmMRow_card_of cdMRow_card_of ctMRow_card_of : Value}
    (aMRow_card_of : PySem.W.findIn K (.ref C_Row) "card_of" = some (some (.ref fMRow_card_of)))
    (iMRow_card_of : PySem.W.isFn K (.ref fMRow_card_of) = true)
    (lMRow_card_of : K.lookup fMRow_card_of = some ⟨ocMRow_card_of, odMRow_card_of, .func (PySem.W.fnOf "card_of" "Row.card_of" (defArgs (inClass (topS 52) 31)) (defBody (inClass (topS 52) 31)) (defScope (inClass (topS 52) 31)) .none kVMRow_card_of dcMRow_card_of pmMRow_card_of anMRow_card_of cdMRow_card_of ctMRow_card_of), slMRow_card_of⟩)
    (cMRow_card_of : PySem.W.codeIn K cdMRow_card_of "Row.card_of" = true)
    (kMRow_card_of : PySem.W.keepIn K (.ref fMRow_card_of) = true)
    {fMRow_where : Addr} {odMRow_where anMRow_where : Option Addr} {slMRow_where : Array (Option Value)} {ocMRow_where kVMRow_where dcMRow_where pmMRow_where cdMRow_where ctMRow_where : Value}
    (aMRow_where : PySem.W.findIn K (.ref C_Row) "where" = some (some (.ref fMRow_where)))
    (iMRow_where : PySem.W.isFn K (.ref fMRow_where) = true)
    (lMRow_where : K.lookup fMRow_where = some ⟨ocMRow_where, odMRow_where, .func (PySem.W.fnOf "where" "Row.where" (defArgs (inClass (topS 52) 33)) (defBody (inClass (topS 52) 33)) (defScope (inClass (topS 52) 33)) .none kVMRow_where dcMRow_where pmMRow_where anMRow_where cdMRow_where ctMRow_where), slMRow_where⟩)
    (cMRow_where : PySem.W.codeIn K cdMRow_where "Row.where" = true)
    (kMRow_where : PySem.W.keepIn K (.ref fMRow_where) = true)
    {fMRow_book : Addr} {odMRow_book anMRow_book : Option Addr} {slMRow_book : Array (Option Value)} {ocMRow_book kVMRow_book dcMRow_book pmMRow_book cdMRow_book ctMRow_book : Value}
    (aMRow_book : PySem.W.findIn K (.ref C_Row) "book" = some (some (.ref fMRow_book)))
    (iMRow_book : PySem.W.isFn K (.ref fMRow_book) = true)
    (lMRow_book : K.lookup fMRow_book = some ⟨ocMRow_book, odMRow_book, .func (PySem.W.fnOf "book" "Row.book" (defArgs (inClass (topS 52) 44)) (defBody (inClass (topS 52) 44)) (defScope (inClass (topS 52) 44)) .none kVMRow_book dcMRow_book pmMRow_book anMRow_book cdMRow_book ctMRow_book), slMRow_book⟩)
    (cMRow_book : PySem.W.codeIn K cdMRow_book "Row.book" = true)
    (kMRow_book : PySem.W.keepIn K (.ref fMRow_book) = true)
    (n_Row_rule : PySem.W.findIn K (.ref C_Row) "rule" = some none)
    (n_Row_moment : PySem.W.findIn K (.ref C_Row) "moment" = some none)
    (n_Row_cards : PySem.W.findIn K (.ref C_Row) "cards" = some none)
    (n_Row_loans : PySem.W.findIn K (.ref C_Row) "loans" = some none)
    (n_Row_group_names : PySem.W.findIn K (.ref C_Row) "group_names" = some none)
    (n_Row_house_names : PySem.W.findIn K (.ref C_Row) "house_names" = some none)
    (n_Row_turned : PySem.W.findIn K (.ref C_Row) "turned" = some none)
    (n_Row_ends : PySem.W.findIn K (.ref C_Row) "ends" = some none)
    (n_Row_written : PySem.W.findIn K (.ref C_Row) "written" = some none)
    (u_NoRule_LentError : PySem.W.subIn K (.ref C_NoRule) (.ref C_LentError) = some true)
    (u_NoRule_NoMoment : PySem.W.subIn K (.ref C_NoRule) (.ref C_NoMoment) = some false)
    (u_NoRule_NoRow : PySem.W.subIn K (.ref C_NoRule) (.ref C_NoRow) = some false)
    (u_NoRule_NoText : PySem.W.subIn K (.ref C_NoRule) (.ref C_NoText) = some false)
    (u_NoRule_NoTry : PySem.W.subIn K (.ref C_NoRule) (.ref C_NoTry) = some false)
    (u_NoRule_NoRule : PySem.W.subIn K (.ref C_NoRule) (.ref C_NoRule) = some true)
    (u_NoRule_NoWork : PySem.W.subIn K (.ref C_NoRule) (.ref C_NoWork) = some false)
    {a_ORDERS : Addr} {dd_ORDERS : Option Addr} {n_ORDERS : Nat} {sl_ORDERS : Array (Option Value)} {tk_ORDERS0 : Tok} {tk_ORDERS1 : Tok}
    (aT_ORDERS : PySem.W.nsIn K mainGlobals "ORDERS" = some (some (.ref a_ORDERS)))
    (lT_ORDERS : K.lookup a_ORDERS = some ⟨.type "tuple", dd_ORDERS, .seq #[.str "put" tk_ORDERS0, .str "turns" tk_ORDERS1] n_ORDERS, sl_ORDERS⟩)
    (z_all : PySem.W.nsIn K mainGlobals "all" = some none)
    (z_isinstance : PySem.W.nsIn K mainGlobals "isinstance" = some none)
    (z_str : PySem.W.nsIn K mainGlobals "str" = some none)
    (z_len : PySem.W.nsIn K mainGlobals "len" = some none)
    (z_int : PySem.W.nsIn K mainGlobals "int" = some none)
    (z_bool : PySem.W.nsIn K mainGlobals "bool" = some none)
    (z_tuple : PySem.W.nsIn K mainGlobals "tuple" = some none)
    (z_min : PySem.W.nsIn K mainGlobals "min" = some none)
    (z_dict : PySem.W.nsIn K mainGlobals "dict" = some none)
    (z_list : PySem.W.nsIn K mainGlobals "list" = some none)
    (z_sorted : PySem.W.nsIn K mainGlobals "sorted" = some none)
    (z_max : PySem.W.nsIn K mainGlobals "max" = some none)
    (z_range : PySem.W.nsIn K mainGlobals "range" = some none)
    (z_ValueError : PySem.W.nsIn K mainGlobals "ValueError" = some none)
    {tk_MOST_LETTERS : Tok} (c_MOST_LETTERS : PySem.W.nsIn K mainGlobals "MOST_LETTERS" = some (some (.int 8 tk_MOST_LETTERS)))
    {tk_LETTERS : Tok} (c_LETTERS : PySem.W.nsIn K mainGlobals "LETTERS" = some (some (.str "abcdefghijklmnopqrstuvwxyz" tk_LETTERS)))
    {tk_MOST_MOMENT : Tok} (c_MOST_MOMENT : PySem.W.nsIn K mainGlobals "MOST_MOMENT" = some (some (.int 1000000000000 tk_MOST_MOMENT)))
    {tk_MOST_PAUSES : Tok} (c_MOST_PAUSES : PySem.W.nsIn K mainGlobals "MOST_PAUSES" = some (some (.int 10 tk_MOST_PAUSES)))
    {tk_MOST_SPAN : Tok} (c_MOST_SPAN : PySem.W.nsIn K mainGlobals "MOST_SPAN" = some (some (.int 1000000 tk_MOST_SPAN)))
    {tk_MOST_OUT : Tok} (c_MOST_OUT : PySem.W.nsIn K mainGlobals "MOST_OUT" = some (some (.int 200 tk_MOST_OUT)))
    {tk_MOST_TRIES : Tok} (c_MOST_TRIES : PySem.W.nsIn K mainGlobals "MOST_TRIES" = some (some (.int 20 tk_MOST_TRIES)))
    {tk_MOST_PLACE : Tok} (c_MOST_PLACE : PySem.W.nsIn K mainGlobals "MOST_PLACE" = some (some (.int 1000000000 tk_MOST_PLACE))) :
    ∃ fd : FuncData, (∀ (s : Shared) (v : Value), BindsTo s fd ⟨[v], []⟩ [("_law_script", v)]) ∧ ∀ base : Heap, K.In base → base.Ns mainGlobals mg → FnOk l.prog w K mg base CX0 10 fa fd ["_law_script"] (sp_law K) := by
  have e := hfa.symm.trans (PySem.W.mg_of X G a30)
  cases e
  have T : Txt K mg ⟨C_LentError, C_NoWork, C_IsIn, C_NoRule, C_NoTry, C_NoMoment, C_NoLoan, C_Late, C_NoWhy, C_NoText, C_NoRow, C_Card, C_Work, C_Loose, C_Grouped, C_Row⟩ := { x_LentError := ⟨PySem.W.mg_of X G aC_LentError, xx_LentError, kc_LentError, xb_LentError, xt_LentError, hd_LentError, xv_LentError, ⟨xg_LentError, xh_LentError, xb_LentError, hd_LentError, ha_LentError, hn0, ht0, hm_LentError⟩⟩, x_NoWork := ⟨PySem.W.mg_of X G aC_NoWork, xx_NoWork, kc_NoWork, xb_NoWork, xt_NoWork, hd_NoWork, xv_NoWork, ⟨xg_NoWork, xh_NoWork, xb_NoWork, hd_NoWork, ha_NoWork, hn0, ht0, hm_NoWork⟩⟩, x_IsIn := ⟨PySem.W.mg_of X G aC_IsIn, xx_IsIn, kc_IsIn, xb_IsIn, xt_IsIn, hd_IsIn, xv_IsIn, ⟨xg_IsIn, xh_IsIn, xb_IsIn, hd_IsIn, ha_IsIn, hn0, ht0, hm_IsIn⟩⟩, x_NoRule := ⟨PySem.W.mg_of X G aC_NoRule, xx_NoRule, kc_NoRule, xb_NoRule, xt_NoRule, hd_NoRule, xv_NoRule, ⟨xg_NoRule, xh_NoRule, xb_NoRule, hd_NoRule, ha_NoRule, hn0, ht0, hm_NoRule⟩⟩, x_NoTry := ⟨PySem.W.mg_of X G aC_NoTry, xx_NoTry, kc_NoTry, xb_NoTry, xt_NoTry, hd_NoTry, xv_NoTry, ⟨xg_NoTry, xh_NoTry, xb_NoTry, hd_NoTry, ha_NoTry, hn0, ht0, hm_NoTry⟩⟩, x_NoMoment := ⟨PySem.W.mg_of X G aC_NoMoment, xx_NoMoment, kc_NoMoment, xb_NoMoment, xt_NoMoment, hd_NoMoment, xv_NoMoment, ⟨xg_NoMoment, xh_NoMoment, xb_NoMoment, hd_NoMoment, ha_NoMoment, hn0, ht0, hm_NoMoment⟩⟩, x_NoLoan := ⟨PySem.W.mg_of X G aC_NoLoan, xx_NoLoan, kc_NoLoan, xb_NoLoan, xt_NoLoan, hd_NoLoan, xv_NoLoan, ⟨xg_NoLoan, xh_NoLoan, xb_NoLoan, hd_NoLoan, ha_NoLoan, hn0, ht0, hm_NoLoan⟩⟩, x_Late := ⟨PySem.W.mg_of X G aC_Late, xx_Late, kc_Late, xb_Late, xt_Late, hd_Late, xv_Late, ⟨xg_Late, xh_Late, xb_Late, hd_Late, ha_Late, hn0, ht0, hm_Late⟩⟩, x_NoWhy := ⟨PySem.W.mg_of X G aC_NoWhy, xx_NoWhy, kc_NoWhy, xb_NoWhy, xt_NoWhy, hd_NoWhy, xv_NoWhy, ⟨xg_NoWhy, xh_NoWhy, xb_NoWhy, hd_NoWhy, ha_NoWhy, hn0, ht0, hm_NoWhy⟩⟩, x_NoText := ⟨PySem.W.mg_of X G aC_NoText, xx_NoText, kc_NoText, xb_NoText, xt_NoText, hd_NoText, xv_NoText, ⟨xg_NoText, xh_NoText, xb_NoText, hd_NoText, ha_NoText, hn0, ht0, hm_NoText⟩⟩, x_NoRow := ⟨PySem.W.mg_of X G aC_NoRow, xx_NoRow, kc_NoRow, xb_NoRow, xt_NoRow, hd_NoRow, xv_NoRow, ⟨xg_NoRow, xh_NoRow, xb_NoRow, hd_NoRow, ha_NoRow, hn0, ht0, hm_NoRow⟩⟩, o_Card := ⟨PySem.W.mg_of X G aC_Card, ⟨pg_Card, hd_Card, po_Card, sa_Card⟩, ha_Card, hn0, ht0, hm_Card⟩, i_Card := ⟨PySem.W.mg_of X G aC_Card, _, _, ⟨mk_Card, aICard, iICard, kc_Card⟩, fun_mk (st := inClass (topS 34) 0) lICard cICard kICard, (fun_mk (st := inClass (topS 34) 0) lICard cICard kICard).binds (ps := ["self", "work", "number", "ready", "place", "tries", "last", "since"]) fun _ _ _ _ _ _ us hl => match us, hl with | [_, _, _, _, _, _, _, _], _ => rfl⟩, m_Card_moved := ⟨_, _, ⟨aMCard_moved, iMCard_moved, kMCard_moved⟩, fun_mk (st := inClass (topS 34) 1) lMCard_moved cMCard_moved kMCard_moved, (fun_mk (st := inClass (topS 34) 1) lMCard_moved cMCard_moved kMCard_moved).binds (ps := ["self", "place", "ready"]) fun _ _ _ _ _ _ us hl => match us, hl with | [_, _, _], _ => rfl⟩, m_Card_tried := ⟨_, _, ⟨aMCard_tried, iMCard_tried, kMCard_tried⟩, fun_mk (st := inClass (topS 34) 3) lMCard_tried cMCard_tried kMCard_tried, (fun_mk (st := inClass (topS 34) 3) lMCard_tried cMCard_tried kMCard_tried).binds (ps := ["self", "tries"]) fun _ _ _ _ _ _ us hl => match us, hl with | [_, _], _ => rfl⟩, m_Card_ended := ⟨_, _, ⟨aMCard_ended, iMCard_ended, kMCard_ended⟩, fun_mk (st := inClass (topS 34) 4) lMCard_ended cMCard_ended kMCard_ended, (fun_mk (st := inClass (topS 34) 4) lMCard_ended cMCard_ended kMCard_ended).binds (ps := ["self", "place", "since"]) fun _ _ _ _ _ _ us hl => match us, hl with | [_, _, _], _ => rfl⟩, n_Card_work := n_Card_work, n_Card_number := n_Card_number, n_Card_ready := n_Card_ready, n_Card_place := n_Card_place, n_Card_tries := n_Card_tries, n_Card_last := n_Card_last, n_Card_since := n_Card_since, o_Work := ⟨PySem.W.mg_of X G aC_Work, ⟨pg_Work, hd_Work, po_Work, sa_Work⟩, ha_Work, hn0, ht0, hm_Work⟩, i_Work := ⟨PySem.W.mg_of X G aC_Work, _, _, ⟨mk_Work, aIWork, iIWork, kc_Work⟩, fun_mk (st := inClass (topS 46) 0) lIWork cIWork kIWork, (fun_mk (st := inClass (topS 46) 0) lIWork cIWork kIWork).binds (ps := ["self", "name", "house", "ready", "group", "place"]) fun _ _ _ _ _ _ us hl => match us, hl with | [_, _, _, _, _, _], _ => rfl⟩, m_Work_told := ⟨_, _, ⟨aMWork_told, iMWork_told, kMWork_told⟩, fun_mk (st := inClass (topS 46) 1) lMWork_told cMWork_told kMWork_told, (fun_mk (st := inClass (topS 46) 1) lMWork_told cMWork_told kMWork_told).binds (ps := ["self"]) fun _ _ _ _ _ _ us hl => match us, hl with | [_], _ => rfl⟩, n_Work_name := n_Work_name, n_Work_house := n_Work_house, n_Work_ready := n_Work_ready, n_Work_group := n_Work_group, n_Work_place := n_Work_place, o_Loose := ⟨PySem.W.mg_of X G aC_Loose, ⟨pg_Loose, hd_Loose, po_Loose, sa_Loose⟩, ha_Loose, hn0, ht0, hm_Loose⟩, i_Loose := ⟨PySem.W.mg_of X G aC_Loose, _, _, ⟨mk_Loose, aILoose, iILoose, kc_Loose⟩, fun_mk (st := inClass (topS 46) 0) lILoose cILoose kILoose, (fun_mk (st := inClass (topS 46) 0) lILoose cILoose kILoose).binds (ps := ["self", "name", "house", "ready", "group", "place"]) fun _ _ _ _ _ _ us hl => match us, hl with | [_, _, _, _, _, _], _ => rfl⟩, m_Loose_told := ⟨_, _, ⟨aMLoose_told, iMLoose_told, kMLoose_told⟩, fun_mk (st := inClass (topS 46) 1) lMLoose_told cMLoose_told kMLoose_told, (fun_mk (st := inClass (topS 46) 1) lMLoose_told cMLoose_told kMLoose_told).binds (ps := ["self"]) fun _ _ _ _ _ _ us hl => match us, hl with | [_], _ => rfl⟩, n_Loose_name := n_Loose_name, n_Loose_house := n_Loose_house, n_Loose_ready := n_Loose_ready, n_Loose_group := n_Loose_group, n_Loose_place := n_Loose_place, o_Grouped := ⟨PySem.W.mg_of X G aC_Grouped, ⟨pg_Grouped, hd_Grouped, po_Grouped, sa_Grouped⟩, ha_Grouped, hn0, ht0, hm_Grouped⟩, i_Grouped := ⟨PySem.W.mg_of X G aC_Grouped, _, _, ⟨mk_Grouped, aIGrouped, iIGrouped, kc_Grouped⟩, fun_mk (st := inClass (topS 46) 0) lIGrouped cIGrouped kIGrouped, (fun_mk (st := inClass (topS 46) 0) lIGrouped cIGrouped kIGrouped).binds (ps := ["self", "name", "house", "ready", "group", "place"]) fun _ _ _ _ _ _ us hl => match us, hl with | [_, _, _, _, _, _], _ => rfl⟩, m_Grouped_told := ⟨_, _, ⟨aMGrouped_told, iMGrouped_told, kMGrouped_told⟩, fun_mk (st := inClass (topS 46) 1) lMGrouped_told cMGrouped_told kMGrouped_told, (fun_mk (st := inClass (topS 46) 1) lMGrouped_told cMGrouped_told kMGrouped_told).binds (ps := ["self"]) fun _ _ _ _ _ _ us hl => match us, hl with | [_], _ => rfl⟩, n_Grouped_name := n_Grouped_name, n_Grouped_house := n_Grouped_house, n_Grouped_ready := n_Grouped_ready, n_Grouped_group := n_Grouped_group, n_Grouped_place := n_Grouped_place, o_Row := ⟨PySem.W.mg_of X G aC_Row, ⟨pg_Row, hd_Row, po_Row, sa_Row⟩, ha_Row, hn0, ht0, hm_Row⟩, i_Row := ⟨PySem.W.mg_of X G aC_Row, _, _, ⟨mk_Row, aIRow, iIRow, kc_Row⟩, fun_mk (st := inClass (topS 52) 0) lIRow cIRow kIRow, (fun_mk (st := inClass (topS 52) 0) lIRow cIRow kIRow).binds (ps := ["self", "rule"]) fun _ _ _ _ _ _ us hl => match us, hl with | [_, _], _ => rfl⟩, m_Row_twin := ⟨_, _, ⟨aMRow_twin, iMRow_twin, kMRow_twin⟩, fun_mk (st := inClass (topS 52) 1) lMRow_twin cMRow_twin kMRow_twin, (fun_mk (st := inClass (topS 52) 1) lMRow_twin cMRow_twin kMRow_twin).binds (ps := ["self"]) fun _ _ _ _ _ _ us hl => match us, hl with | [_], _ => rfl⟩, m_Row_become := ⟨_, _, ⟨aMRow_become, iMRow_become, kMRow_become⟩, fun_mk (st := inClass (topS 52) 2) lMRow_become cMRow_become kMRow_become, (fun_mk (st := inClass (topS 52) 2) lMRow_become cMRow_become kMRow_become).binds (ps := ["self", "row"]) fun _ _ _ _ _ _ us hl => match us, hl with | [_, _], _ => rfl⟩, m_Row_ahead := ⟨_, _, ⟨aMRow_ahead, iMRow_ahead, kMRow_ahead⟩, fun_mk (st := inClass (topS 52) 3) lMRow_ahead cMRow_ahead kMRow_ahead, (fun_mk (st := inClass (topS 52) 3) lMRow_ahead cMRow_ahead kMRow_ahead).binds (ps := ["self", "now"]) fun _ _ _ _ _ _ us hl => match us, hl with | [_, _], _ => rfl⟩, m_Row_by_end := ⟨_, _, ⟨aMRow_by_end, iMRow_by_end, kMRow_by_end⟩, fun_mk (st := inClass (topS 52) 4) lMRow_by_end cMRow_by_end kMRow_by_end, (fun_mk (st := inClass (topS 52) 4) lMRow_by_end cMRow_by_end kMRow_by_end).binds (ps := ["self"]) fun _ _ _ _ _ _ us hl => match us, hl with | [_], _ => rfl⟩, m_Row_pass_to := ⟨_, _, ⟨aMRow_pass_to, iMRow_pass_to, kMRow_pass_to⟩, fun_mk (st := inClass (topS 52) 5) lMRow_pass_to cMRow_pass_to kMRow_pass_to, (fun_mk (st := inClass (topS 52) 5) lMRow_pass_to cMRow_pass_to kMRow_pass_to).binds (ps := ["self", "now"]) fun _ _ _ _ _ _ us hl => match us, hl with | [_, _], _ => rfl⟩, m_Row_run_out := ⟨_, _, ⟨aMRow_run_out, iMRow_run_out, kMRow_run_out⟩, fun_mk (st := inClass (topS 52) 6) lMRow_run_out cMRow_run_out kMRow_run_out, (fun_mk (st := inClass (topS 52) 6) lMRow_run_out cMRow_run_out kMRow_run_out).binds (ps := ["self", "loan"]) fun _ _ _ _ _ _ us hl => match us, hl with | [_, _], _ => rfl⟩, m_Row_is_out := ⟨_, _, ⟨aMRow_is_out, iMRow_is_out, kMRow_is_out⟩, fun_mk (st := inClass (topS 52) 7) lMRow_is_out cMRow_is_out kMRow_is_out, (fun_mk (st := inClass (topS 52) 7) lMRow_is_out cMRow_is_out kMRow_is_out).binds (ps := ["self", "loan"]) fun _ _ _ _ _ _ us hl => match us, hl with | [_, _], _ => rfl⟩, m_Row_end_try := ⟨_, _, ⟨aMRow_end_try, iMRow_end_try, kMRow_end_try⟩, fun_mk (st := inClass (topS 52) 8) lMRow_end_try cMRow_end_try kMRow_end_try, (fun_mk (st := inClass (topS 52) 8) lMRow_end_try cMRow_end_try kMRow_end_try).binds (ps := ["self", "loan", "at", "how", "why"]) fun _ _ _ _ _ _ us hl => match us, hl with | [_, _, _, _, _], _ => rfl⟩, m_Row_end_work := ⟨_, _, ⟨aMRow_end_work, iMRow_end_work, kMRow_end_work⟩, fun_mk (st := inClass (topS 52) 9) lMRow_end_work cMRow_end_work kMRow_end_work, (fun_mk (st := inClass (topS 52) 9) lMRow_end_work cMRow_end_work kMRow_end_work).binds (ps := ["self", "card", "place"]) fun _ _ _ _ _ _ us hl => match us, hl with | [_, _, _], _ => rfl⟩, m_Row_put := ⟨_, _, ⟨aMRow_put, iMRow_put, kMRow_put⟩, fun_mk (st := inClass (topS 52) 10) lMRow_put cMRow_put kMRow_put, (fun_mk (st := inClass (topS 52) 10) lMRow_put cMRow_put kMRow_put).binds (ps := ["self", "now", "told"]) fun _ _ _ _ _ _ us hl => match us, hl with | [_, _, _], _ => rfl⟩, m_Row_loan_of := ⟨_, _, ⟨aMRow_loan_of, iMRow_loan_of, kMRow_loan_of⟩, fun_mk (st := inClass (topS 52) 14) lMRow_loan_of cMRow_loan_of kMRow_loan_of, (fun_mk (st := inClass (topS 52) 14) lMRow_loan_of cMRow_loan_of kMRow_loan_of).binds (ps := ["self", "number"]) fun _ _ _ _ _ _ us hl => match us, hl with | [_, _], _ => rfl⟩, m_Row_done := ⟨_, _, ⟨aMRow_done, iMRow_done, kMRow_done⟩, fun_mk (st := inClass (topS 52) 16) lMRow_done cMRow_done kMRow_done, (fun_mk (st := inClass (topS 52) 16) lMRow_done cMRow_done kMRow_done).binds (ps := ["self", "now", "loan"]) fun _ _ _ _ _ _ us hl => match us, hl with | [_, _, _], _ => rfl⟩, m_Row_back := ⟨_, _, ⟨aMRow_back, iMRow_back, kMRow_back⟩, fun_mk (st := inClass (topS 52) 17) lMRow_back cMRow_back kMRow_back, (fun_mk (st := inClass (topS 52) 17) lMRow_back cMRow_back kMRow_back).binds (ps := ["self", "now", "loan", "why"]) fun _ _ _ _ _ _ us hl => match us, hl with | [_, _, _, _], _ => rfl⟩, m_Row_sorted_cards := ⟨_, _, ⟨aMRow_sorted_cards, iMRow_sorted_cards, kMRow_sorted_cards⟩, fun_mk (st := inClass (topS 52) 20) lMRow_sorted_cards cMRow_sorted_cards kMRow_sorted_cards, (fun_mk (st := inClass (topS 52) 20) lMRow_sorted_cards cMRow_sorted_cards kMRow_sorted_cards).binds (ps := ["self"]) fun _ _ _ _ _ _ us hl => match us, hl with | [_], _ => rfl⟩, m_Row_in_place := ⟨_, _, ⟨aMRow_in_place, iMRow_in_place, kMRow_in_place⟩, fun_mk (st := inClass (topS 52) 21) lMRow_in_place cMRow_in_place kMRow_in_place, (fun_mk (st := inClass (topS 52) 21) lMRow_in_place cMRow_in_place kMRow_in_place).binds (ps := ["self", "place"]) fun _ _ _ _ _ _ us hl => match us, hl with | [_, _], _ => rfl⟩, m_Row_out := ⟨_, _, ⟨aMRow_out, iMRow_out, kMRow_out⟩, fun_mk (st := inClass (topS 52) 26) lMRow_out cMRow_out kMRow_out, (fun_mk (st := inClass (topS 52) 26) lMRow_out cMRow_out kMRow_out).binds (ps := ["self"]) fun _ _ _ _ _ _ us hl => match us, hl with | [_], _ => rfl⟩, m_Row_ended := ⟨_, _, ⟨aMRow_ended, iMRow_ended, kMRow_ended⟩, fun_mk (st := inClass (topS 52) 27) lMRow_ended cMRow_ended kMRow_ended, (fun_mk (st := inClass (topS 52) 27) lMRow_ended cMRow_ended kMRow_ended).binds (ps := ["self", "place"]) fun _ _ _ _ _ _ us hl => match us, hl with | [_, _], _ => rfl⟩, m_Row_aside := ⟨_, _, ⟨aMRow_aside, iMRow_aside, kMRow_aside⟩, fun_mk (st := inClass (topS 52) 28) lMRow_aside cMRow_aside kMRow_aside, (fun_mk (st := inClass (topS 52) 28) lMRow_aside cMRow_aside kMRow_aside).binds (ps := ["self"]) fun _ _ _ _ _ _ us hl => match us, hl with | [_], _ => rfl⟩, m_Row_counts := ⟨_, _, ⟨aMRow_counts, iMRow_counts, kMRow_counts⟩, fun_mk (st := inClass (topS 52) 30) lMRow_counts cMRow_counts kMRow_counts, (fun_mk (st := inClass (topS 52) 30) lMRow_counts cMRow_counts kMRow_counts).binds (ps := ["self"]) fun _ _ _ _ _ _ us hl => match us, hl with | [_], _ => rfl⟩, m_Row_card_of := ⟨_, _, ⟨aMRow_card_of, iMRow_card_of, kMRow_card_of⟩, fun_mk (st := inClass (topS 52) 31) lMRow_card_of cMRow_card_of kMRow_card_of, (fun_mk (st := inClass (topS 52) 31) lMRow_card_of cMRow_card_of kMRow_card_of).binds (ps := ["self", "name"]) fun _ _ _ _ _ _ us hl => match us, hl with | [_, _], _ => rfl⟩, m_Row_where := ⟨_, _, ⟨aMRow_where, iMRow_where, kMRow_where⟩, fun_mk (st := inClass (topS 52) 33) lMRow_where cMRow_where kMRow_where, (fun_mk (st := inClass (topS 52) 33) lMRow_where cMRow_where kMRow_where).binds (ps := ["self", "name"]) fun _ _ _ _ _ _ us hl => match us, hl with | [_, _], _ => rfl⟩, m_Row_book := ⟨_, _, ⟨aMRow_book, iMRow_book, kMRow_book⟩, fun_mk (st := inClass (topS 52) 44) lMRow_book cMRow_book kMRow_book, (fun_mk (st := inClass (topS 52) 44) lMRow_book cMRow_book kMRow_book).binds (ps := ["self"]) fun _ _ _ _ _ _ us hl => match us, hl with | [_], _ => rfl⟩, n_Row_rule := n_Row_rule, n_Row_moment := n_Row_moment, n_Row_cards := n_Row_cards, n_Row_loans := n_Row_loans, n_Row_group_names := n_Row_group_names, n_Row_house_names := n_Row_house_names, n_Row_turned := n_Row_turned, n_Row_ends := n_Row_ends, n_Row_written := n_Row_written, u_NoRule_LentError := u_NoRule_LentError, u_NoRule_NoMoment := u_NoRule_NoMoment, u_NoRule_NoRow := u_NoRule_NoRow, u_NoRule_NoText := u_NoRule_NoText, u_NoRule_NoTry := u_NoRule_NoTry, u_NoRule_NoRule := u_NoRule_NoRule, u_NoRule_NoWork := u_NoRule_NoWork, t_ORDERS := ⟨a_ORDERS, ⟨_, PySem.W.mg_of X G aT_ORDERS, rfl⟩, fun H => .inr ⟨_, _, _, lT_ORDERS, rfl, rfl, R.line_of (show 2 ≤ 16777216 by decide), (.cons ⟨_, rfl⟩ (.cons ⟨_, rfl⟩ Paired.nil))⟩⟩, m_all := PySem.W.mg_none_of X G z_all, m_isinstance := PySem.W.mg_none_of X G z_isinstance, m_str := PySem.W.mg_none_of X G z_str, m_len := PySem.W.mg_none_of X G z_len, m_int := PySem.W.mg_none_of X G z_int, m_bool := PySem.W.mg_none_of X G z_bool, m_tuple := PySem.W.mg_none_of X G z_tuple, m_min := PySem.W.mg_none_of X G z_min, m_dict := PySem.W.mg_none_of X G z_dict, m_list := PySem.W.mg_none_of X G z_list, m_sorted := PySem.W.mg_none_of X G z_sorted, m_max := PySem.W.mg_none_of X G z_max, m_range := PySem.W.mg_none_of X G z_range, m_ValueError := PySem.W.mg_none_of X G z_ValueError, g_MOST_LETTERS := ⟨_, PySem.W.mg_of X G c_MOST_LETTERS, ⟨_, rfl⟩⟩, g_LETTERS := ⟨_, PySem.W.mg_of X G c_LETTERS, ⟨_, rfl⟩⟩, g_MOST_MOMENT := ⟨_, PySem.W.mg_of X G c_MOST_MOMENT, ⟨_, rfl⟩⟩, g_MOST_PAUSES := ⟨_, PySem.W.mg_of X G c_MOST_PAUSES, ⟨_, rfl⟩⟩, g_MOST_SPAN := ⟨_, PySem.W.mg_of X G c_MOST_SPAN, ⟨_, rfl⟩⟩, g_MOST_OUT := ⟨_, PySem.W.mg_of X G c_MOST_OUT, ⟨_, rfl⟩⟩, g_MOST_TRIES := ⟨_, PySem.W.mg_of X G c_MOST_TRIES, ⟨_, rfl⟩⟩, g_MOST_PLACE := ⟨_, PySem.W.mg_of X G c_MOST_PLACE, ⟨_, rfl⟩⟩, f_is_name := ⟨_, _, PySem.W.mg_of X G a1, fun_mk (st := topS 17) l1 c1 k1, (fun_mk (st := topS 17) l1 c1 k1).binds (ps := ["thing"]) fun _ _ _ _ _ _ us hl => match us, hl with | [_], _ => rfl⟩, f_is_whole := ⟨_, _, PySem.W.mg_of X G a2, fun_mk (st := topS 18) l2 c2 k2, (fun_mk (st := topS 18) l2 c2 k2).binds (ps := ["thing", "low", "high"]) fun _ _ _ _ _ _ us hl => match us, hl with | [_, _, _], _ => rfl⟩, f_is_count := ⟨_, _, PySem.W.mg_of X G a3, fun_mk (st := topS 19) l3 c3 k3, (fun_mk (st := topS 19) l3 c3 k3).binds (ps := ["thing"]) fun _ _ _ _ _ _ us hl => match us, hl with | [_], _ => rfl⟩, f_is_moment := ⟨_, _, PySem.W.mg_of X G a4, fun_mk (st := topS 20) l4 c4 k4, (fun_mk (st := topS 20) l4 c4 k4).binds (ps := ["thing"]) fun _ _ _ _ _ _ us hl => match us, hl with | [_], _ => rfl⟩, f_joined := ⟨_, _, PySem.W.mg_of X G a5, fun_mk (st := topS 21) l5 c5 k5, (fun_mk (st := topS 21) l5 c5 k5).binds (ps := ["words", "between"]) fun _ _ _ _ _ _ us hl => match us, hl with | [_, _], _ => rfl⟩, f_are_pauses := ⟨_, _, PySem.W.mg_of X G a6, fun_mk (st := topS 28) l6 c6 k6, (fun_mk (st := topS 28) l6 c6 k6).binds (ps := ["thing"]) fun _ _ _ _ _ _ us hl => match us, hl with | [_], _ => rfl⟩, f_is_rule := ⟨_, _, PySem.W.mg_of X G a7, fun_mk (st := topS 29) l7 c7 k7, (fun_mk (st := topS 29) l7 c7 k7).binds (ps := ["thing"]) fun _ _ _ _ _ _ us hl => match us, hl with | [_], _ => rfl⟩, f_sure_rule := ⟨_, _, PySem.W.mg_of X G a8, fun_mk (st := topS 30) l8 c8 k8, (fun_mk (st := topS 30) l8 c8 k8).binds (ps := ["rule"]) fun _ _ _ _ _ _ us hl => match us, hl with | [_], _ => rfl⟩, f_rule_text := ⟨_, _, PySem.W.mg_of X G a9, fun_mk (st := topS 31) l9 c9 k9, (fun_mk (st := topS 31) l9 c9 k9).binds (ps := ["rule"]) fun _ _ _ _ _ _ us hl => match us, hl with | [_], _ => rfl⟩, f_pause_behind := ⟨_, _, PySem.W.mg_of X G a10, fun_mk (st := topS 32) l10 c10 k10, (fun_mk (st := topS 32) l10 c10 k10).binds (ps := ["rule", "k"]) fun _ _ _ _ _ _ us hl => match us, hl with | [_, _], _ => rfl⟩, f_words_line := ⟨_, _, PySem.W.mg_of X G a11, fun_mk (st := topS 36) l11 c11 k11, (fun_mk (st := topS 36) l11 c11 k11).binds (ps := ["words"]) fun _ _ _ _ _ _ us hl => match us, hl with | [_], _ => rfl⟩, f_stands := ⟨_, _, PySem.W.mg_of X G a12, fun_mk (st := topS 37) l12 c12 k12, (fun_mk (st := topS 37) l12 c12 k12).binds (ps := ["card"]) fun _ _ _ _ _ _ us hl => match us, hl with | [_], _ => rfl⟩, f_group_word := ⟨_, _, PySem.W.mg_of X G a13, fun_mk (st := topS 38) l13 c13 k13, (fun_mk (st := topS 38) l13 c13 k13).binds (ps := ["group"]) fun _ _ _ _ _ _ us hl => match us, hl with | [_], _ => rfl⟩, f_row_line := ⟨_, _, PySem.W.mg_of X G a14, fun_mk (st := topS 39) l14 c14 k14, (fun_mk (st := topS 39) l14 c14 k14).binds (ps := ["rule"]) fun _ _ _ _ _ _ us hl => match us, hl with | [_], _ => rfl⟩, f_put_line := ⟨_, _, PySem.W.mg_of X G a15, fun_mk (st := topS 40) l15 c15 k15, (fun_mk (st := topS 40) l15 c15 k15).binds (ps := ["now", "work"]) fun _ _ _ _ _ _ us hl => match us, hl with | [_, _], _ => rfl⟩, f_done_line := ⟨_, _, PySem.W.mg_of X G a16, fun_mk (st := topS 41) l16 c16 k16, (fun_mk (st := topS 41) l16 c16 k16).binds (ps := ["now", "loan", "how"]) fun _ _ _ _ _ _ us hl => match us, hl with | [_, _, _], _ => rfl⟩, f_back_line := ⟨_, _, PySem.W.mg_of X G a17, fun_mk (st := topS 42) l17 c17 k17, (fun_mk (st := topS 42) l17 c17 k17).binds (ps := ["now", "loan", "why", "card"]) fun _ _ _ _ _ _ us hl => match us, hl with | [_, _, _, _], _ => rfl⟩, f_lapse_line := ⟨_, _, PySem.W.mg_of X G a18, fun_mk (st := topS 43) l18 c18 k18, (fun_mk (st := topS 43) l18 c18 k18).binds (ps := ["loan", "card"]) fun _ _ _ _ _ _ us hl => match us, hl with | [_, _], _ => rfl⟩, f_is_work := ⟨_, _, PySem.W.mg_of X G a19, fun_mk (st := topS 49) l19 c19 k19, (fun_mk (st := topS 49) l19 c19 k19).binds (ps := ["told"]) fun _ _ _ _ _ _ us hl => match us, hl with | [_], _ => rfl⟩, f_work_of := ⟨_, _, PySem.W.mg_of X G a20, fun_mk (st := topS 50) l20 c20 k20, (fun_mk (st := topS 50) l20 c20 k20).binds (ps := ["told"]) fun _ _ _ _ _ _ us hl => match us, hl with | [_], _ => rfl⟩, f__law_cell_at := ⟨_, _, PySem.W.mg_of X G a21, fun_mk (st := topS 54) l21 c21 k21, (fun_mk (st := topS 54) l21 c21 k21).binds (ps := ["_law_script", "_law_k"]) fun _ _ _ _ _ _ us hl => match us, hl with | [_, _], _ => rfl⟩, f__law_state := ⟨_, _, PySem.W.mg_of X G a22, fun_mk (st := topS 55) l22 c22 k22, (fun_mk (st := topS 55) l22 c22 k22).binds (ps := ["_law_cell", "_law_k"]) fun _ _ _ _ _ _ us hl => match us, hl with | [_, _], _ => rfl⟩, f__law_mixed := ⟨_, _, PySem.W.mg_of X G a23, fun_mk (st := topS 56) l23 c23 k23, (fun_mk (st := topS 56) l23 c23 k23).binds (ps := ["_law_number"]) fun _ _ _ _ _ _ us hl => match us, hl with | [_], _ => rfl⟩, f__law_digit := ⟨_, _, PySem.W.mg_of X G a24, fun_mk (st := topS 57) l24 c24 k24, (fun_mk (st := topS 57) l24 c24 k24).binds (ps := ["_law_state_here", "_law_base"]) fun _ _ _ _ _ _ us hl => match us, hl with | [_, _], _ => rfl⟩, f__law_rule := ⟨_, _, PySem.W.mg_of X G a25, fun_mk (st := topS 58) l25 c25 k25, (fun_mk (st := topS 58) l25 c25 k25).binds (ps := ["_law_state_here"]) fun _ _ _ _ _ _ us hl => match us, hl with | [_], _ => rfl⟩, f__law_no_number := ⟨_, _, PySem.W.mg_of X G a26, fun_mk (st := topS 59) l26 c26 k26, (fun_mk (st := topS 59) l26 c26 k26).binds (ps := ["_law_state_here", "_law_low", "_law_high"]) fun _ _ _ _ _ _ us hl => match us, hl with | [_, _, _], _ => rfl⟩, f__law_no_pauses := ⟨_, _, PySem.W.mg_of X G a27, fun_mk (st := topS 60) l27 c27 k27, (fun_mk (st := topS 60) l27 c27 k27).binds (ps := ["_law_state_here", "_law_pauses"]) fun _ _ _ _ _ _ us hl => match us, hl with | [_, _], _ => rfl⟩, f__law_spoilt := ⟨_, _, PySem.W.mg_of X G a28, fun_mk (st := topS 61) l28 c28 k28, (fun_mk (st := topS 61) l28 c28 k28).binds (ps := ["_law_state_here", "_law_rule_here"]) fun _ _ _ _ _ _ us hl => match us, hl with | [_, _], _ => rfl⟩, f__law_refused := ⟨_, _, PySem.W.mg_of X G a29, fun_mk (st := topS 62) l29 c29 k29, (fun_mk (st := topS 62) l29 c29 k29).binds (ps := ["_law_way", "_law_rule_here", "_law_k"]) fun _ _ _ _ _ _ us hl => match us, hl with | [_, _, _], _ => rfl⟩ }
  exact ⟨PySem.W.fnOf "law" "law" (defArgs s_law) (defBody s_law) (defScope s_law) .none kV30 dc30 pm30 an30 cd30 ct30, fun s v => .of_eq rfl, fun base _ _ => ok_law (fun_mk (st := s_law) l30 c30 k30) T⟩
end W
open PySem PySem.W PyProof.Rows
set_option maxRecDepth 100000 in
set_option maxHeartbeats 0 in
theorem PySem.Challenge.cw_rowlent_k05_what_is_a_rule_holds : PySem.Challenge.rw_rowlent_k05_what_is_a_rule.Holds := by
  w_on; o_law; k_head; (case hw => w_witness2)
  k_fill
  refine L2.walk_ofK (l := PySem.Challenge.rw_rowlent_k05_what_is_a_rule) (n := 63) (k := 10) (x := "_law_script") (CX := L2.CX0) (sp := W.sp_law) rfl (by decide) rfl ⟨rfl, by decide, by decide⟩ (fun w h Y => by first | exact PySem.W.kIn_of Y | exact PySem.W.km_in_of Y) ?F (fun _ _ a ns hl hO hS => ⟨ns, ⟨a, rfl, hS, hl⟩, R.wf_only hO, fun _ => rfl⟩) (fun _ _ _ _ h => h)
  case F =>
    intro w mg fa h KX G hmg
    refine' W.all_mk KX G hmg ?a1 ?l1 ?c1 ?k1 ?a2 ?l2 ?c2 ?k2 ?a3 ?l3 ?c3 ?k3 ?a4 ?l4 ?c4 ?k4 ?a5 ?l5 ?c5 ?k5 ?a6 ?l6 ?c6 ?k6 ?a7 ?l7 ?c7 ?k7 ?a8 ?l8 ?c8 ?k8 ?a9 ?l9 ?c9 ?k9 ?a10 ?l10 ?c10 ?k10 ?a11 ?l11 ?c11 ?k11 ?a12 ?l12 ?c12 ?k12 ?a13 ?l13 ?c13 ?k13 ?a14 ?l14 ?c14 ?k14 ?a15 ?l15 ?c15 ?k15 ?a16 ?l16 ?c16 ?k16 ?a17 ?l17 ?c17 ?k17 ?a18 ?l18 ?c18 ?k18 ?a19 ?l19 ?c19 ?k19 ?a20 ?l20 ?c20 ?k20 ?a21 ?l21 ?c21 ?k21 ?a22 ?l22 ?c22 ?k22 ?a23 ?l23 ?c23 ?k23 ?a24 ?l24 ?c24 ?k24 ?a25 ?l25 ?c25 ?k25 ?a26 ?l26 ?c26 ?k26 ?a27 ?l27 ?c27 ?k27 ?a28 ?l28 ?c28 ?k28 ?a29 ?l29 ?c29 ?k29 ?a30 ?l30 ?c30 ?k30 ?hn0 ?ht0 ?aC_LentError ?ha_LentError ?hm_LentError ?hd_LentError ?kc_LentError ?xx_LentError ?xb_LentError ?xt_LentError ?xv_LentError ?xg_LentError ?xh_LentError ?aC_NoWork ?ha_NoWork ?hm_NoWork ?hd_NoWork ?kc_NoWork ?xx_NoWork ?xb_NoWork ?xt_NoWork ?xv_NoWork ?xg_NoWork ?xh_NoWork ?aC_IsIn ?ha_IsIn ?hm_IsIn ?hd_IsIn ?kc_IsIn ?xx_IsIn ?xb_IsIn ?xt_IsIn ?xv_IsIn ?xg_IsIn ?xh_IsIn ?aC_NoRule ?ha_NoRule ?hm_NoRule ?hd_NoRule ?kc_NoRule ?xx_NoRule ?xb_NoRule ?xt_NoRule ?xv_NoRule ?xg_NoRule ?xh_NoRule ?aC_NoTry ?ha_NoTry ?hm_NoTry ?hd_NoTry ?kc_NoTry ?xx_NoTry ?xb_NoTry ?xt_NoTry ?xv_NoTry ?xg_NoTry ?xh_NoTry ?aC_NoMoment ?ha_NoMoment ?hm_NoMoment ?hd_NoMoment ?kc_NoMoment ?xx_NoMoment ?xb_NoMoment ?xt_NoMoment ?xv_NoMoment ?xg_NoMoment ?xh_NoMoment ?aC_NoLoan ?ha_NoLoan ?hm_NoLoan ?hd_NoLoan ?kc_NoLoan ?xx_NoLoan ?xb_NoLoan ?xt_NoLoan ?xv_NoLoan ?xg_NoLoan ?xh_NoLoan ?aC_Late ?ha_Late ?hm_Late ?hd_Late ?kc_Late ?xx_Late ?xb_Late ?xt_Late ?xv_Late ?xg_Late ?xh_Late ?aC_NoWhy ?ha_NoWhy ?hm_NoWhy ?hd_NoWhy ?kc_NoWhy ?xx_NoWhy ?xb_NoWhy ?xt_NoWhy ?xv_NoWhy ?xg_NoWhy ?xh_NoWhy ?aC_NoText ?ha_NoText ?hm_NoText ?hd_NoText ?kc_NoText ?xx_NoText ?xb_NoText ?xt_NoText ?xv_NoText ?xg_NoText ?xh_NoText ?aC_NoRow ?ha_NoRow ?hm_NoRow ?hd_NoRow ?kc_NoRow ?xx_NoRow ?xb_NoRow ?xt_NoRow ?xv_NoRow ?xg_NoRow ?xh_NoRow ?aC_Card ?ha_Card ?hm_Card ?hd_Card ?kc_Card ?pg_Card ?po_Card ?sa_Card ?mk_Card ?aICard ?iICard ?lICard ?cICard ?kICard ?aMCard_moved ?iMCard_moved ?lMCard_moved ?cMCard_moved ?kMCard_moved ?aMCard_tried ?iMCard_tried ?lMCard_tried ?cMCard_tried ?kMCard_tried ?aMCard_ended ?iMCard_ended ?lMCard_ended ?cMCard_ended ?kMCard_ended ?n_Card_work ?n_Card_number ?n_Card_ready ?n_Card_place ?n_Card_tries ?n_Card_last ?n_Card_since ?aC_Work ?ha_Work ?hm_Work ?hd_Work ?kc_Work ?pg_Work ?po_Work ?sa_Work ?mk_Work ?aIWork ?iIWork ?lIWork ?cIWork ?kIWork ?aMWork_told ?iMWork_told ?lMWork_told ?cMWork_told ?kMWork_told ?n_Work_name ?n_Work_house ?n_Work_ready ?n_Work_group ?n_Work_place ?aC_Loose ?ha_Loose ?hm_Loose ?hd_Loose ?kc_Loose ?pg_Loose ?po_Loose ?sa_Loose ?mk_Loose ?aILoose ?iILoose ?lILoose ?cILoose ?kILoose ?aMLoose_told ?iMLoose_told ?lMLoose_told ?cMLoose_told ?kMLoose_told ?n_Loose_name ?n_Loose_house ?n_Loose_ready ?n_Loose_group ?n_Loose_place ?aC_Grouped ?ha_Grouped ?hm_Grouped ?hd_Grouped ?kc_Grouped ?pg_Grouped ?po_Grouped ?sa_Grouped ?mk_Grouped ?aIGrouped ?iIGrouped ?lIGrouped ?cIGrouped ?kIGrouped ?aMGrouped_told ?iMGrouped_told ?lMGrouped_told ?cMGrouped_told ?kMGrouped_told ?n_Grouped_name ?n_Grouped_house ?n_Grouped_ready ?n_Grouped_group ?n_Grouped_place ?aC_Row ?ha_Row ?hm_Row ?hd_Row ?kc_Row ?pg_Row ?po_Row ?sa_Row ?mk_Row ?aIRow ?iIRow ?lIRow ?cIRow ?kIRow ?aMRow_twin ?iMRow_twin ?lMRow_twin ?cMRow_twin ?kMRow_twin ?aMRow_become ?iMRow_become ?lMRow_become ?cMRow_become ?kMRow_become ?aMRow_ahead ?iMRow_ahead ?lMRow_ahead ?cMRow_ahead ?kMRow_ahead ?aMRow_by_end ?iMRow_by_end ?lMRow_by_end ?cMRow_by_end ?kMRow_by_end ?aMRow_pass_to ?iMRow_pass_to ?lMRow_pass_to ?cMRow_pass_to ?kMRow_pass_to ?aMRow_run_out ?iMRow_run_out ?lMRow_run_out ?cMRow_run_out ?kMRow_run_out ?aMRow_is_out ?iMRow_is_out ?lMRow_is_out ?cMRow_is_out ?kMRow_is_out ?aMRow_end_try ?iMRow_end_try ?lMRow_end_try ?cMRow_end_try ?kMRow_end_try ?aMRow_end_work ?iMRow_end_work ?lMRow_end_work ?cMRow_end_work ?kMRow_end_work ?aMRow_put ?iMRow_put ?lMRow_put ?cMRow_put ?kMRow_put ?aMRow_loan_of ?iMRow_loan_of ?lMRow_loan_of ?cMRow_loan_of ?kMRow_loan_of ?aMRow_done ?iMRow_done ?lMRow_done ?cMRow_done ?kMRow_done ?aMRow_back ?iMRow_back ?lMRow_back ?cMRow_back ?kMRow_back ?aMRow_sorted_cards ?iMRow_sorted_cards ?lMRow_sorted_cards ?cMRow_sorted_cards ?kMRow_sorted_cards ?aMRow_in_place ?iMRow_in_place ?lMRow_in_place ?cMRow_in_place ?kMRow_in_place ?aMRow_out ?iMRow_out ?lMRow_out ?cMRow_out ?kMRow_out ?aMRow_ended ?iMRow_ended ?lMRow_ended ?cMRow_ended ?kMRow_ended ?aMRow_aside ?iMRow_aside ?lMRow_aside ?cMRow_aside ?kMRow_aside ?aMRow_counts ?iMRow_counts ?lMRow_counts ?cMRow_counts ?kMRow_counts ?aMRow_card_of ?iMRow_card_of ?lMRow_card_of ?cMRow_card_of ?kMRow_card_of ?aMRow_where ?iMRow_where ?lMRow_where ?cMRow_where ?kMRow_where ?aMRow_book ?iMRow_book ?lMRow_book ?cMRow_book ?kMRow_book ?n_Row_rule ?n_Row_moment ?n_Row_cards ?n_Row_loans ?n_Row_group_names ?n_Row_house_names ?n_Row_turned ?n_Row_ends ?n_Row_written ?u_NoRule_LentError ?u_NoRule_NoMoment ?u_NoRule_NoRow ?u_NoRule_NoText ?u_NoRule_NoTry ?u_NoRule_NoRule ?u_NoRule_NoWork ?aT_ORDERS ?lT_ORDERS ?z_all ?z_isinstance ?z_str ?z_len ?z_int ?z_bool ?z_tuple ?z_min ?z_dict ?z_list ?z_sorted ?z_max ?z_range ?z_ValueError ?c_MOST_LETTERS ?c_LETTERS ?c_MOST_MOMENT ?c_MOST_PAUSES ?c_MOST_SPAN ?c_MOST_OUT ?c_MOST_TRIES ?c_MOST_PLACE
    (case a1 => k_is)
    (case l1 => k_is)
    (case c1 => k_is)
    (case k1 => k_is)
    (case a2 => k_is)
    (case l2 => k_is)
    (case c2 => k_is)
    (case k2 => k_is)
    (case a3 => k_is)
    (case l3 => k_is)
    (case c3 => k_is)
    (case k3 => k_is)
    (case a4 => k_is)
    (case l4 => k_is)
    (case c4 => k_is)
    (case k4 => k_is)
    (case a5 => k_is)
    (case l5 => k_is)
    (case c5 => k_is)
    (case k5 => k_is)
    (case a6 => k_is)
    (case l6 => k_is)
    (case c6 => k_is)
    (case k6 => k_is)
    (case a7 => k_is)
    (case l7 => k_is)
    (case c7 => k_is)
    (case k7 => k_is)
    (case a8 => k_is)
    (case l8 => k_is)
    (case c8 => k_is)
    (case k8 => k_is)
    (case a9 => k_is)
    (case l9 => k_is)
    (case c9 => k_is)
    (case k9 => k_is)
    (case a10 => k_is)
    (case l10 => k_is)
    (case c10 => k_is)
    (case k10 => k_is)
    (case a11 => k_is)
    (case l11 => k_is)
    (case c11 => k_is)
    (case k11 => k_is)
    (case a12 => k_is)
    (case l12 => k_is)
    (case c12 => k_is)
    (case k12 => k_is)
    (case a13 => k_is)
    (case l13 => k_is)
    (case c13 => k_is)
    (case k13 => k_is)
    (case a14 => k_is)
    (case l14 => k_is)
    (case c14 => k_is)
    (case k14 => k_is)
    (case a15 => k_is)
    (case l15 => k_is)
    (case c15 => k_is)
    (case k15 => k_is)
    (case a16 => k_is)
    (case l16 => k_is)
    (case c16 => k_is)
    (case k16 => k_is)
    (case a17 => k_is)
    (case l17 => k_is)
    (case c17 => k_is)
    (case k17 => k_is)
    (case a18 => k_is)
    (case l18 => k_is)
    (case c18 => k_is)
    (case k18 => k_is)
    (case a19 => k_is)
    (case l19 => k_is)
    (case c19 => k_is)
    (case k19 => k_is)
    (case a20 => k_is)
    (case l20 => k_is)
    (case c20 => k_is)
    (case k20 => k_is)
    (case a21 => k_is)
    (case l21 => k_is)
    (case c21 => k_is)
    (case k21 => k_is)
    (case a22 => k_is)
    (case l22 => k_is)
    (case c22 => k_is)
    (case k22 => k_is)
    (case a23 => k_is)
    (case l23 => k_is)
    (case c23 => k_is)
    (case k23 => k_is)
    (case a24 => k_is)
    (case l24 => k_is)
    (case c24 => k_is)
    (case k24 => k_is)
    (case a25 => k_is)
    (case l25 => k_is)
    (case c25 => k_is)
    (case k25 => k_is)
    (case a26 => k_is)
    (case l26 => k_is)
    (case c26 => k_is)
    (case k26 => k_is)
    (case a27 => k_is)
    (case l27 => k_is)
    (case c27 => k_is)
    (case k27 => k_is)
    (case a28 => k_is)
    (case l28 => k_is)
    (case c28 => k_is)
    (case k28 => k_is)
    (case a29 => k_is)
    (case l29 => k_is)
    (case c29 => k_is)
    (case k29 => k_is)
    (case a30 => k_is)
    (case l30 => k_is)
    (case c30 => k_is)
    (case k30 => k_is)
    (case hn0 => k_is)
    (case ht0 => k_is)
    (case aC_LentError => k_is)
    (case ha_LentError => k_is)
    (case hm_LentError => k_is)
    (case hd_LentError => k_is)
    (case kc_LentError => k_is)
    (case xx_LentError => k_exc)
    (case xb_LentError => k_is)
    (case xt_LentError => k_is)
    (case xv_LentError => k_is)
    (case xg_LentError => k_is)
    (case xh_LentError => k_is)
    (case aC_NoWork => k_is)
    (case ha_NoWork => k_is)
    (case hm_NoWork => k_is)
    (case hd_NoWork => k_is)
    (case kc_NoWork => k_is)
    (case xx_NoWork => k_exc)
    (case xb_NoWork => k_is)
    (case xt_NoWork => k_is)
    (case xv_NoWork => k_is)
    (case xg_NoWork => k_is)
    (case xh_NoWork => k_is)
    (case aC_IsIn => k_is)
    (case ha_IsIn => k_is)
    (case hm_IsIn => k_is)
    (case hd_IsIn => k_is)
    (case kc_IsIn => k_is)
    (case xx_IsIn => k_exc)
    (case xb_IsIn => k_is)
    (case xt_IsIn => k_is)
    (case xv_IsIn => k_is)
    (case xg_IsIn => k_is)
    (case xh_IsIn => k_is)
    (case aC_NoRule => k_is)
    (case ha_NoRule => k_is)
    (case hm_NoRule => k_is)
    (case hd_NoRule => k_is)
    (case kc_NoRule => k_is)
    (case xx_NoRule => k_exc)
    (case xb_NoRule => k_is)
    (case xt_NoRule => k_is)
    (case xv_NoRule => k_is)
    (case xg_NoRule => k_is)
    (case xh_NoRule => k_is)
    (case aC_NoTry => k_is)
    (case ha_NoTry => k_is)
    (case hm_NoTry => k_is)
    (case hd_NoTry => k_is)
    (case kc_NoTry => k_is)
    (case xx_NoTry => k_exc)
    (case xb_NoTry => k_is)
    (case xt_NoTry => k_is)
    (case xv_NoTry => k_is)
    (case xg_NoTry => k_is)
    (case xh_NoTry => k_is)
    (case aC_NoMoment => k_is)
    (case ha_NoMoment => k_is)
    (case hm_NoMoment => k_is)
    (case hd_NoMoment => k_is)
    (case kc_NoMoment => k_is)
    (case xx_NoMoment => k_exc)
    (case xb_NoMoment => k_is)
    (case xt_NoMoment => k_is)
    (case xv_NoMoment => k_is)
    (case xg_NoMoment => k_is)
    (case xh_NoMoment => k_is)
    (case aC_NoLoan => k_is)
    (case ha_NoLoan => k_is)
    (case hm_NoLoan => k_is)
    (case hd_NoLoan => k_is)
    (case kc_NoLoan => k_is)
    (case xx_NoLoan => k_exc)
    (case xb_NoLoan => k_is)
    (case xt_NoLoan => k_is)
    (case xv_NoLoan => k_is)
    (case xg_NoLoan => k_is)
    (case xh_NoLoan => k_is)
    (case aC_Late => k_is)
    (case ha_Late => k_is)
    (case hm_Late => k_is)
    (case hd_Late => k_is)
    (case kc_Late => k_is)
    (case xx_Late => k_exc)
    (case xb_Late => k_is)
    (case xt_Late => k_is)
    (case xv_Late => k_is)
    (case xg_Late => k_is)
    (case xh_Late => k_is)
    (case aC_NoWhy => k_is)
    (case ha_NoWhy => k_is)
    (case hm_NoWhy => k_is)
    (case hd_NoWhy => k_is)
    (case kc_NoWhy => k_is)
    (case xx_NoWhy => k_exc)
    (case xb_NoWhy => k_is)
    (case xt_NoWhy => k_is)
    (case xv_NoWhy => k_is)
    (case xg_NoWhy => k_is)
    (case xh_NoWhy => k_is)
    (case aC_NoText => k_is)
    (case ha_NoText => k_is)
    (case hm_NoText => k_is)
    (case hd_NoText => k_is)
    (case kc_NoText => k_is)
    (case xx_NoText => k_exc)
    (case xb_NoText => k_is)
    (case xt_NoText => k_is)
    (case xv_NoText => k_is)
    (case xg_NoText => k_is)
    (case xh_NoText => k_is)
    (case aC_NoRow => k_is)
    (case ha_NoRow => k_is)
    (case hm_NoRow => k_is)
    (case hd_NoRow => k_is)
    (case kc_NoRow => k_is)
    (case xx_NoRow => k_exc)
    (case xb_NoRow => k_is)
    (case xt_NoRow => k_is)
    (case xv_NoRow => k_is)
    (case xg_NoRow => k_is)
    (case xh_NoRow => k_is)
    (case aC_Card => k_is)
    (case ha_Card => k_is)
    (case hm_Card => k_is)
    (case hd_Card => k_is)
    (case kc_Card => k_is)
    (case pg_Card => k_is)
    (case po_Card => k_is)
    (case sa_Card => k_is)
    (case mk_Card => k_is)
    (case aICard => k_is)
    (case iICard => k_is)
    (case lICard => k_is)
    (case cICard => k_is)
    (case kICard => k_is)
    (case aMCard_moved => k_is)
    (case iMCard_moved => k_is)
    (case lMCard_moved => k_is)
    (case cMCard_moved => k_is)
    (case kMCard_moved => k_is)
    (case aMCard_tried => k_is)
    (case iMCard_tried => k_is)
    (case lMCard_tried => k_is)
    (case cMCard_tried => k_is)
    (case kMCard_tried => k_is)
    (case aMCard_ended => k_is)
    (case iMCard_ended => k_is)
    (case lMCard_ended => k_is)
    (case cMCard_ended => k_is)
    (case kMCard_ended => k_is)
    (case n_Card_work => k_is)
    (case n_Card_number => k_is)
    (case n_Card_ready => k_is)
    (case n_Card_place => k_is)
    (case n_Card_tries => k_is)
    (case n_Card_last => k_is)
    (case n_Card_since => k_is)
    (case aC_Work => k_is)
    (case ha_Work => k_is)
    (case hm_Work => k_is)
    (case hd_Work => k_is)
    (case kc_Work => k_is)
    (case pg_Work => k_is)
    (case po_Work => k_is)
    (case sa_Work => k_is)
    (case mk_Work => k_is)
    (case aIWork => k_is)
    (case iIWork => k_is)
    (case lIWork => k_is)
    (case cIWork => k_is)
    (case kIWork => k_is)
    (case aMWork_told => k_is)
    (case iMWork_told => k_is)
    (case lMWork_told => k_is)
    (case cMWork_told => k_is)
    (case kMWork_told => k_is)
    (case n_Work_name => k_is)
    (case n_Work_house => k_is)
    (case n_Work_ready => k_is)
    (case n_Work_group => k_is)
    (case n_Work_place => k_is)
    (case aC_Loose => k_is)
    (case ha_Loose => k_is)
    (case hm_Loose => k_is)
    (case hd_Loose => k_is)
    (case kc_Loose => k_is)
    (case pg_Loose => k_is)
    (case po_Loose => k_is)
    (case sa_Loose => k_is)
    (case mk_Loose => k_is)
    (case aILoose => k_is)
    (case iILoose => k_is)
    (case lILoose => k_is)
    (case cILoose => k_is)
    (case kILoose => k_is)
    (case aMLoose_told => k_is)
    (case iMLoose_told => k_is)
    (case lMLoose_told => k_is)
    (case cMLoose_told => k_is)
    (case kMLoose_told => k_is)
    (case n_Loose_name => k_is)
    (case n_Loose_house => k_is)
    (case n_Loose_ready => k_is)
    (case n_Loose_group => k_is)
    (case n_Loose_place => k_is)
    (case aC_Grouped => k_is)
    (case ha_Grouped => k_is)
    (case hm_Grouped => k_is)
    (case hd_Grouped => k_is)
    (case kc_Grouped => k_is)
    (case pg_Grouped => k_is)
    (case po_Grouped => k_is)
    (case sa_Grouped => k_is)
    (case mk_Grouped => k_is)
    (case aIGrouped => k_is)
    (case iIGrouped => k_is)
    (case lIGrouped => k_is)
    (case cIGrouped => k_is)
    (case kIGrouped => k_is)
    (case aMGrouped_told => k_is)
    (case iMGrouped_told => k_is)
    (case lMGrouped_told => k_is)
    (case cMGrouped_told => k_is)
    (case kMGrouped_told => k_is)
    (case n_Grouped_name => k_is)
    (case n_Grouped_house => k_is)
    (case n_Grouped_ready => k_is)
    (case n_Grouped_group => k_is)
    (case n_Grouped_place => k_is)
    (case aC_Row => k_is)
    (case ha_Row => k_is)
    (case hm_Row => k_is)
    (case hd_Row => k_is)
    (case kc_Row => k_is)
    (case pg_Row => k_is)
    (case po_Row => k_is)
    (case sa_Row => k_is)
    (case mk_Row => k_is)
    (case aIRow => k_is)
    (case iIRow => k_is)
    (case lIRow => k_is)
    (case cIRow => k_is)
    (case kIRow => k_is)
    (case aMRow_twin => k_is)
    (case iMRow_twin => k_is)
    (case lMRow_twin => k_is)
    (case cMRow_twin => k_is)
    (case kMRow_twin => k_is)
    (case aMRow_become => k_is)
    (case iMRow_become => k_is)
    (case lMRow_become => k_is)
    (case cMRow_become => k_is)
    (case kMRow_become => k_is)
    (case aMRow_ahead => k_is)
    (case iMRow_ahead => k_is)
    (case lMRow_ahead => k_is)
    (case cMRow_ahead => k_is)
    (case kMRow_ahead => k_is)
    (case aMRow_by_end => k_is)
    (case iMRow_by_end => k_is)
    (case lMRow_by_end => k_is)
    (case cMRow_by_end => k_is)
    (case kMRow_by_end => k_is)
    (case aMRow_pass_to => k_is)
    (case iMRow_pass_to => k_is)
    (case lMRow_pass_to => k_is)
    (case cMRow_pass_to => k_is)
    (case kMRow_pass_to => k_is)
    (case aMRow_run_out => k_is)
    (case iMRow_run_out => k_is)
    (case lMRow_run_out => k_is)
    (case cMRow_run_out => k_is)
    (case kMRow_run_out => k_is)
    (case aMRow_is_out => k_is)
    (case iMRow_is_out => k_is)
    (case lMRow_is_out => k_is)
    (case cMRow_is_out => k_is)
    (case kMRow_is_out => k_is)
    (case aMRow_end_try => k_is)
    (case iMRow_end_try => k_is)
    (case lMRow_end_try => k_is)
    (case cMRow_end_try => k_is)
    (case kMRow_end_try => k_is)
    (case aMRow_end_work => k_is)
    (case iMRow_end_work => k_is)
    (case lMRow_end_work => k_is)
    (case cMRow_end_work => k_is)
    (case kMRow_end_work => k_is)
    (case aMRow_put => k_is)
    (case iMRow_put => k_is)
    (case lMRow_put => k_is)
    (case cMRow_put => k_is)
    (case kMRow_put => k_is)
    (case aMRow_loan_of => k_is)
    (case iMRow_loan_of => k_is)
    (case lMRow_loan_of => k_is)
    (case cMRow_loan_of => k_is)
    (case kMRow_loan_of => k_is)
    (case aMRow_done => k_is)
    (case iMRow_done => k_is)
    (case lMRow_done => k_is)
    (case cMRow_done => k_is)
    (case kMRow_done => k_is)
    (case aMRow_back => k_is)
    (case iMRow_back => k_is)
    (case lMRow_back => k_is)
    (case cMRow_back => k_is)
    (case kMRow_back => k_is)
    (case aMRow_sorted_cards => k_is)
    (case iMRow_sorted_cards => k_is)
    (case lMRow_sorted_cards => k_is)
    (case cMRow_sorted_cards => k_is)
    (case kMRow_sorted_cards => k_is)
    (case aMRow_in_place => k_is)
    (case iMRow_in_place => k_is)
    (case lMRow_in_place => k_is)
    (case cMRow_in_place => k_is)
    (case kMRow_in_place => k_is)
    (case aMRow_out => k_is)
    (case iMRow_out => k_is)
    (case lMRow_out => k_is)
    (case cMRow_out => k_is)
    (case kMRow_out => k_is)
    (case aMRow_ended => k_is)
    (case iMRow_ended => k_is)
    (case lMRow_ended => k_is)
    (case cMRow_ended => k_is)
    (case kMRow_ended => k_is)
    (case aMRow_aside => k_is)
    (case iMRow_aside => k_is)
    (case lMRow_aside => k_is)
    (case cMRow_aside => k_is)
    (case kMRow_aside => k_is)
    (case aMRow_counts => k_is)
    (case iMRow_counts => k_is)
    (case lMRow_counts => k_is)
    (case cMRow_counts => k_is)
    (case kMRow_counts => k_is)
    (case aMRow_card_of => k_is)
    (case iMRow_card_of => k_is)
    (case lMRow_card_of => k_is)
    (case cMRow_card_of => k_is)
    (case kMRow_card_of => k_is)
    (case aMRow_where => k_is)
    (case iMRow_where => k_is)
    (case lMRow_where => k_is)
    (case cMRow_where => k_is)
    (case kMRow_where => k_is)
    (case aMRow_book => k_is)
    (case iMRow_book => k_is)
    (case lMRow_book => k_is)
    (case cMRow_book => k_is)
    (case kMRow_book => k_is)
    (case n_Row_rule => k_is)
    (case n_Row_moment => k_is)
    (case n_Row_cards => k_is)
    (case n_Row_loans => k_is)
    (case n_Row_group_names => k_is)
    (case n_Row_house_names => k_is)
    (case n_Row_turned => k_is)
    (case n_Row_ends => k_is)
    (case n_Row_written => k_is)
    (case u_NoRule_LentError => first | rfl | k_is)
    (case u_NoRule_NoMoment => first | rfl | k_is)
    (case u_NoRule_NoRow => first | rfl | k_is)
    (case u_NoRule_NoText => first | rfl | k_is)
    (case u_NoRule_NoTry => first | rfl | k_is)
    (case u_NoRule_NoRule => first | rfl | k_is)
    (case u_NoRule_NoWork => first | rfl | k_is)
    (case aT_ORDERS => k_is)
    (case lT_ORDERS => k_is)
    (case z_all => k_is)
    (case z_isinstance => k_is)
    (case z_str => k_is)
    (case z_len => k_is)
    (case z_int => k_is)
    (case z_bool => k_is)
    (case z_tuple => k_is)
    (case z_min => k_is)
    (case z_dict => k_is)
    (case z_list => k_is)
    (case z_sorted => k_is)
    (case z_max => k_is)
    (case z_range => k_is)
    (case z_ValueError => k_is)
    (case c_MOST_LETTERS => k_is)
    (case c_LETTERS => k_is)
    (case c_MOST_MOMENT => k_is)
    (case c_MOST_PAUSES => k_is)
    (case c_MOST_SPAN => k_is)
    (case c_MOST_OUT => k_is)
    (case c_MOST_TRIES => k_is)
    (case c_MOST_PLACE => k_is)
