import PyProof.Rows.All
import Wide.All
import OpenK.AllK
import Wide.FinOn
import HandS.ForMost
import HandS.ForExc
import HandS.IsInst
import HandS.Wide
import HandS.Flow
import HandS.Walk
import HandS.Codes
import HandS.Conv
import HandS.WordsExc
import HandS.ExcOwn
import HandS.ExcIs
import HandS.TryOnly
import HandS.TryMany
import HandS.WordsDict
import HandS.Style
import HandS.Deep
import HandS.TupAny
import PyProof.StrBlock2
import PySem.Challenge.RW_rowlent_k07_texts_of_no_rule
set_option Elab.async false
set_option linter.all false
set_option maxRecDepth 100000
set_option maxHeartbeats 4000000

namespace R
open PySem PySem.Spec PyProof.Rows L2
/-! ### heaps that may be cut back to what is wanted -/
def Flat : HO → Prop
  | .dT kvs => kvs = []
  | .ins _ _ _ => False
  | .frz _ u => Flat u
  | _ => True
def Wf (H : Hp) : Prop := ∀ a o, H a = some o → Flat o ∨ ∃ C dx fs, o = .ins C dx fs ∧ H dx = some (.own a)
theorem flat_ok {P : Program} {w : World} {H H2 : Hp} {h : Heap} {a : Addr} {o : HO} (f : Flat o) (x : ObjOk P w H h a o) : ObjOk P w H2 h a o := by
  induction o with
  | dT kvs =>
    have e : kvs = [] := f
    subst e
    obtain ⟨z, y, xs, r, q⟩ := x
    cases r
    exact ⟨z, y, [], .nil, q⟩
  | ins C dx fs => exact f.elim
  | frz ob u ih => exact ⟨x.1, ih f x.2⟩
  | lst xs => exact x
  | tup xs => exact x
  | dK kvs => exact x
  | set S n => exact x
  | own y => exact x
  | xd fs => exact x
  | met g y => exact x
  | rng lo hi => exact x
  | tbl ps => exact x
  | ext φ => exact x
/-- H2: what is kept of H' behind a piece of code that began in H -/
structure Back (H H2 H' : Hp) : Prop where
  sub : ∀ a o, H2 a = some o → H' a = some o
  kp : ∀ a o, H a = some o → H2 a = H' a
  wf : Wf H2
theorem Back.refl {H H' : Hp} (w : Wf H') : Back H H' H' := ⟨fun _ _ h => h, fun _ _ _ => rfl, w⟩
theorem Back.hok {P : Program} {w : World} {H H2 H' : Hp} {h : Heap} (b : Back H H2 H') (x : HOk P w H' h) : HOk P w H2 h := fun a o e => by
  have q := x a o (b.sub a o e)
  rcases b.wf a o e with f | ⟨C, dx, fs, rfl, hd⟩
  · exact flat_ok f q
  · obtain ⟨_, z⟩ := q
    exact ⟨hd, z⟩
theorem Back.un {fs ex : List Addr} {H0 H H2 H' : Hp} {h h' : Heap} (b : Back H H2 H') (u0 : ∀ a o, H0 a = some o → (∀ xs, o = .tup xs → H a = some o) ∧ (∀ z y, o = .frz z y → H a = some o) ∧ (∀ ps, o = .tbl ps → ∃ m, H a = some (.tbl m)))
    (u : Un fs ex H0 H' h h') : Un fs ex H0 H2 h h' where
  keep := u.keep
  slot := u.slot
  there := u.there
  free := fun c ob q n hx => by
    have z := u.free c ob q n hx
    cases e : H2 c with
    | none => rfl
    | some x =>
      have y := b.sub c x e
      rw [z] at y
      cases y
  tups := fun c xs q => by
    have z := (u0 c _ q).1 xs rfl
    rw [b.kp c _ z]
    exact u.tups c xs q
  frzs := fun c ob x q => by
    have z := (u0 c _ q).2.1 ob x rfl
    rw [b.kp c _ z]
    exact u.frzs c ob x q
  tbls := fun c ps q => by
    obtain ⟨m, z⟩ := (u0 c _ q).2.2 ps rfl
    rw [b.kp c _ z]
    exact u.tbls c ps q
theorem Back.un0 {fs ex : List Addr} {H H2 H' : Hp} {h h' : Heap} (b : Back H H2 H') (u : Un fs ex H H' h h') : Un fs ex H H2 h h' :=
  b.un (fun a o e => ⟨fun xs r => e, fun _ _ _ => e, fun ps r => ⟨ps, by rw [e, r]⟩⟩) u
theorem Back.ub {fs : List Addr} {H H2 H' : Hp} {h B h' : Heap} (b : Back H H2 H') (u : UB fs H H' h B h') : UB fs H H2 h B h' where
  keep := u.keep
  slot := u.slot
  there := u.there
  free := fun c ob q n => by
    have z := u.free c ob q n
    cases e : H2 c with
    | none => rfl
    | some x =>
      have y := b.sub c x e
      rw [z] at y
      cases y
  tups := fun c xs q => by
    rw [b.kp c _ q]
    exact u.tups c xs q
  frzs := fun c ob x q => by
    rw [b.kp c _ q]
    exact u.frzs c ob x q
  tbls := fun c ps q => by
    rw [b.kp c _ q]
    exact u.tbls c ps q
def bQ (H : Hp) (Q : VK) : VK := fun v H' => ∃ H2, Back H H2 H' ∧ Q v H2
def bE (H : Hp) (E : XK) : XK := fun c d H' => ∃ H2, Back H H2 H' ∧ E c d H2
theorem bQ.mk {H : Hp} {Q : VK} {v : V} {H' : Hp} (w : Wf H') (q : Q v H') : bQ H Q v H' := ⟨H', Back.refl w, q⟩
section
variable {P : Program} {w : World} {K : PySem.W.Frag} {mg : Str → Option Value} {base : Heap} {k : Nat} {f : Addr} {fd : FuncData} {ps : List Str} {sp : Sp}
theorem ce_back {outer : List Env} {H : Hp} {s s' : Shared} {Q : VK} {u : Value} (h : CE outer P w H s (bQ H Q) u s') : CE outer P w H s Q u s' := by
  obtain ⟨v, H', os, bare, un, hok, r, H2, b, q⟩ := h
  exact ⟨v, H2, os, bare, b.un0 un, b.hok hok, r, q⟩
theorem cx_back {outer : List Env} {H : Hp} {s s' : Shared} {E : XK} {u : Value} (h : L2.CX P w outer H s (bE H E) u s') : L2.CX P w outer H s E u s' := by
  obtain ⟨a, B, H', cls, d, e, fl, hok, ub, na, os, ag, H2, b, q⟩ := h
  refine ⟨a, B, H2, cls, d, e, fl, b.hok hok, b.ub ub, ?_, os, ag, q⟩
  cases z : H2 a with
  | none => rfl
  | some x =>
    have y := b.sub a x z
    rw [na] at y
    cases y
/-- a promise over a heap that is cut back -/
def spB (sp : Sp) : Sp := fun vs H Q' E' => ∃ Q E, Q' = bQ H Q ∧ E' = bE H E ∧ sp vs H Q E
theorem fn_backX (F : FnOk P w K mg base (L2.CX P w) k f fd ps (spB sp)) : FnOk P w K mg base (L2.CX P w) k f fd ps sp := by
  refine ⟨fun vs H Q E q => F.len vs H (bQ H Q) (bE H E) ⟨Q, E, rfl, rfl, q⟩, fun A outer s H args us vs Q E hr he hb hv hs => ?_⟩
  refine codeAny_mono (F.run A outer s H args us vs (bQ H Q) (bE H E) hr he hb hv ⟨Q, E, rfl, rfl, hs⟩) fun r s' hq => ?_
  cases r with
  | error e => exact cx_back hq
  | ok fl =>
    cases fl with
    | ret u => exact ce_back hq
    | next => exact hq
    | brk => exact hq
    | cont => exact hq
theorem fn_back (F : FnOk P w K mg base CX0 k f fd ps (spB sp)) : FnOk P w K mg base CX0 k f fd ps sp := by
  refine ⟨fun vs H Q E q => F.len vs H (bQ H Q) (bE H E) ⟨Q, E, rfl, rfl, q⟩, fun A outer s H args us vs Q E hr he hb hv hs => ?_⟩
  refine codeAny_mono (F.run A outer s H args us vs (bQ H Q) (bE H E) hr he hb hv ⟨Q, E, rfl, rfl, hs⟩) fun r s' hq => ?_
  cases r with
  | error e => exact hq
  | ok fl =>
    cases fl with
    | ret u => exact ce_back hq
    | next => exact hq
    | brk => exact hq
    | cont => exact hq
end
/-- a def that raises nothing, by its body; the heap behind it cut back -/
theorem ok0 {P : Program} {w : World} {K : PySem.W.Frag} {mg : Str → Option Value} {base : Heap} {x qual : Str} {st : Stmt} {f : Addr} {fd : FuncData} {N ps : List Str} {k : Nat} {sp : Sp} (F : Fun K x qual st f fd) (S : FnScope N ps (defScope st)) (len : ∀ vs H Q E, sp vs H Q E → vs.length = ps.length)
    (hbody : ∀ (cdv : Value) (A : Around) (outer : List Env) (s : Shared) (H : Hp) (vs : List V) (Q : VK) (E : XK), Room k (A.deeper (envOfC qual (defScope st) s.heap.objs.size f cdv)) → sp vs H Q E →
      ∃ t, PSs (cxOf CX0 P w K mg base N qual (defScope st) f cdv A outer s H E).nox (defBody st) t ∧ t { nx := fun _ H' => bQ H Q .non H', rt := bQ H Q } (start N vs) H) : FnOk P w K mg base CX0 (k + 1) f fd ps sp := by
  refine fn_back (F.ok S (fun vs H Q E h => ?_) fun cdv A outer s H vs Q' E' hr h => ?_)
  · obtain ⟨Q, E, _, _, q⟩ := h
    exact len vs H Q E q
  · obtain ⟨Q, E, rfl, rfl, q⟩ := h
    exact hbody cdv A outer s H vs Q E hr q
/-- .. that may raise -/
theorem okX {P : Program} {w : World} {K : PySem.W.Frag} {mg : Str → Option Value} {base : Heap} {x qual : Str} {st : Stmt} {f : Addr} {fd : FuncData} {N ps : List Str} {k : Nat} {sp : Sp} (F : Fun K x qual st f fd) (S : FnScope N ps (defScope st)) (len : ∀ vs H Q E, sp vs H Q E → vs.length = ps.length)
    (hbody : ∀ (cdv : Value) (A : Around) (outer : List Env) (s : Shared) (H : Hp) (vs : List V) (Q : VK) (E : XK), Room k (A.deeper (envOfC qual (defScope st) s.heap.objs.size f cdv)) → sp vs H Q E →
      ∃ t, PSs (cxOf (L2.CX P w) P w K mg base N qual (defScope st) f cdv A outer s H (bE H E)) (defBody st) t ∧ t { nx := fun _ H' => bQ H Q .non H', rt := bQ H Q } (start N vs) H) : FnOk P w K mg base (L2.CX P w) (k + 1) f fd ps sp := by
  refine fn_backX (F.okX S (fun vs H Q E h => ?_) fun cdv A outer s H vs Q' E' hr h => ?_)
  · obtain ⟨Q, E, _, _, q⟩ := h
    exact len vs H Q E q
  · obtain ⟨Q, E, rfl, rfl, q⟩ := h
    exact hbody cdv A outer s H vs Q E hr q
section
variable {X : Cx}
/-- the heap behind an expression, a block, cut back -/
def tBack (t : TE) : TE := fun σ H Q => t σ H (bQ H Q)
theorem inv_back {pins : List (Addr × Obj)} {σ : L2.St} {σ0 : L2.St} {H H2 H' : Hp} {s s0 : Shared} (I0 : Inv X pins σ0 H s0) (b : Back H H2 H') (I : Inv X pins σ H' s) : Inv X pins σ H2 s := by
  have fr : ∀ c, H' c = none → H2 c = none := fun c z => by
    cases e : H2 c with
    | none => rfl
    | some x =>
      have y := b.sub c x e
      rw [z] at y
      cases y
  refine ⟨I.ok, I.os, I.bare, b.un (fun a o e => ⟨fun xs r => ?_, fun z y r => ?_, fun ps r => ?_⟩) I.base, I.loc, I.cell, fr _ I.free, fun x c e => fr _ (I.freeC x c e), fun p hp => ?_, b.hok I.hok, I.len⟩
  · subst r
    exact I0.base.tups a xs e
  · subst r
    exact I0.base.frzs a z y e
  · subst r
    obtain ⟨m, h⟩ := I0.base.tbls a ps e
    exact ⟨_, h⟩
  · obtain ⟨a1, a2, a3⟩ := I.pin p hp
    exact ⟨a1, fr _ a2, a3⟩
theorem pe_back {e : Expr} {t : TE} (h : PE X e t) : PE X e (tBack t) := by
  refine ⟨fun pins s σ H Q I q => ?_⟩
  refine thn (h.run pins s σ H _ I q) fun u s1 z => ?_
  obtain ⟨v, H1, I1, r1, H2, b, q2⟩ := z
  exact ⟨v, H2, inv_back I b I1, r1, q2⟩
def bD (H : Hp) (D : Ends) : Ends := { nx := fun σ H' => ∃ H2, Back H H2 H' ∧ D.nx σ H2, rt := bQ H D.rt, bk := fun σ H' => ∃ H2, Back H H2 H' ∧ D.bk σ H2, ct := fun σ H' => ∃ H2, Back H H2 H' ∧ D.ct σ H2 }
def sBack (t : TS) : TS := fun D σ H => t (bD H D) σ H
theorem sp_back {pins : List (Addr × Obj)} {σ : L2.St} {H : Hp} {D : Ends} {s s1 : Shared} {f : Flow} (I : Inv X pins σ H s) (z : SP X pins (bD H D) f s1) : SP X pins D f s1 := by
  cases f with
  | next =>
    obtain ⟨σ', H', I', H2, b, q⟩ := z
    exact ⟨σ', H2, inv_back I b I', q⟩
  | brk =>
    obtain ⟨σ', H', I', H2, b, q⟩ := z
    exact ⟨σ', H2, inv_back I b I', q⟩
  | cont =>
    obtain ⟨σ', H', I', H2, b, q⟩ := z
    exact ⟨σ', H2, inv_back I b I', q⟩
  | ret u =>
    obtain ⟨v, σ', H', I', r, H2, b, q⟩ := z
    exact ⟨v, σ', H2, inv_back I b I', r, q⟩
theorem pss_back {b : List Stmt} {t : TS} (h : PSs X b t) : PSs X b (sBack t) := ⟨fun pins s σ H D I q => thn (h.run pins s σ H _ I q) fun _ _ z => sp_back I z⟩
theorem ps_back {b : Stmt} {t : TS} (h : PS X b t) : PS X b (sBack t) := ⟨fun pins s σ H D I q => thn (h.run pins s σ H _ I q) fun _ _ z => sp_back I z⟩
end
end R
namespace R
open PySem PySem.Spec PyProof.Rows L2
/-! ### readings that reckon: what can be seen is done by whnf, what is left stands as a want -/
theorem imp_e {X : Cx} {e : Expr} {t t' : TE} (h : PE X e t) (i : ∀ σ H Q, t' σ H Q → t σ H Q) : PE X e t' := ⟨fun pins s σ H Q I q => h.run pins s σ H Q I (i σ H Q q)⟩
theorem imp_t {X : Cx} {e : Expr} {t t' : TT} (h : PT X e t) (i : ∀ σ H Q, t' σ H Q → t σ H Q) : PT X e t' := ⟨fun pins s σ H Q I q => h.run pins s σ H Q I (i σ H Q q)⟩
theorem imp_s {X : Cx} {e : Stmt} {t t' : TS} (h : PS X e t) (i : ∀ D σ H, t' D σ H → t D σ H) : PS X e t' := ⟨fun pins s σ H D I q => h.run pins s σ H D I (i D σ H q)⟩
theorem imp_o {X : Cx} {f : Value → Value → Sem Value} {r r' : R2} (h : OpR X f r) (i : ∀ x y H Q, r' x y H Q → r x y H Q) : OpR X f r' := fun pins s σ H x y v u Q I rx ry q => h pins s σ H x y v u Q I rx ry (i x y H Q q)
theorem imp_c {X : Cx} {f : Value} {r r' : List V → Hp → VK → Prop} (h : CallR X f r) (i : ∀ xs H Q, r' xs H Q → r xs H Q) : CallR X f r' := fun pins s σ H xs us Q I rx q => h pins s σ H xs us Q I rx (i xs H Q q)
theorem imp_g {X : Cx} {e : Expr} {t t' : TG} (h : PG X e t) (i : ∀ v σ H Q, t' v σ H Q → t v σ H Q) : PG X e t' := ⟨fun pins s σ H v u Q I r q => h.run pins s σ H v u Q I r (i v σ H Q q)⟩
/-- a name -/
def cVar (i : Nat) : TE := fun σ H Q => match σ[i]? with | some (some v) => Q v H | _ => False
theorem lv {X : Cx} (i : Nat) {x : Str} {pos : Pos} (hN : X.N[i]? = some x := by rfl) (hv : Vis X.env.scope x := by first | exact Or.inl rfl | exact Or.inr (Or.inl rfl) | exact Or.inr (Or.inr rfl)) (hd : (x == ("__debug__" : Str)) = false := by decide)
    (hcd : (x == ("__classdict__" : Str)) = false := by decide) : PE X (.Name x pos) (cVar i) := imp_e (pe_var hN hv hd hcd) fun σ H Q q => by
  unfold cVar at q
  split at q
  · rename_i v e
    exact ⟨v, e, q⟩
  · exact q.elim
/-- a name of the module's top -/
def GlV (mg : Str → Option Value) (x : Str) (v : V) : Prop := ∃ u, mg x = some u ∧ RelV v u
theorem pe_g {X : Cx} {x : Str} {v : V} {pos : Pos} (h : GlV X.mg x v) (hg : Gl X x := by rfl) (hd : (x == ("__debug__" : Str)) = false := by decide) : PE X (.Name x pos) (tC v) := by
  obtain ⟨u, h1, h2⟩ := h
  exact pe_glob hg h1 h2 hd
/-- tests -/
def cTest (t : TE) : TT := fun σ H Q => t σ H fun x H' => match x with | .bl k => Q k H' | _ => False
section
variable {X : Cx} {a b c e : Expr} {ta tb tc te : TE} {tt : TT} {rest : List Expr} {pos : Pos}
theorem imp_Q {X : Cx} {e : Expr} {t : TE} {R R' : V → Hp → Prop} : True := trivial
end
/-- a reading that may be weakened at its end -/
def Mono (t : TE) : Prop := ∀ σ H (Q Q' : VK), (∀ v H', Q v H' → Q' v H') → t σ H Q → t σ H Q'
theorem run_mono {X : Cx} {e : Expr} {t : TE} (h : PE X e t) {t' : TE} (i : ∀ σ H Q, t' σ H Q → ∃ Q0 : VK, (∀ v H', Q0 v H' → Q v H') ∧ t σ H Q0) : PE X e t' := ⟨fun pins s σ H Q I q => by
  obtain ⟨Q0, w, z⟩ := i σ H Q q
  exact thn (h.run pins s σ H Q0 I z) fun u s1 ⟨v, H1, I1, r, q1⟩ => ⟨v, H1, I1, r, w v H1 q1⟩⟩
theorem run_monoT {X : Cx} {e : Expr} {t : TT} (h : PT X e t) {t' : TT} (i : ∀ σ H Q, t' σ H Q → ∃ Q0 : Bool → Hp → Prop, (∀ v H', Q0 v H' → Q v H') ∧ t σ H Q0) : PT X e t' := ⟨fun pins s σ H Q I q => by
  obtain ⟨Q0, w, z⟩ := i σ H Q q
  exact thn (h.run pins s σ H Q0 I z) fun u s1 ⟨H1, I1, q1⟩ => ⟨H1, I1, w u H1 q1⟩⟩
section
variable {X : Cx} {a b c e : Expr} {ta tb tc te : TE} {tt : TT} {rest : List Expr} {pos : Pos}
theorem testM {Q : Bool → Hp → Prop} : ∀ (v : V) (H' : Hp), (match v with | .bl k => Q k H' | _ => False) → ∃ k, v = .bl k ∧ Q k H'
  | .bl k, _, q => ⟨k, rfl, q⟩
  | .non, _, q => q.elim
  | .int _, _, q => q.elim
  | .str _, _, q => q.elim
  | .byt _, _, q => q.elim
  | .flt _, _, q => q.elim
  | .ref _, _, q => q.elim
  | .ty _, _, q => q.elim
/-- an expression that gives a bool, as a test -/
theorem pt_cmpU {op : CmpOp} {r : R2} (ho : OpR X (compareOp op) r) (ha : PE X a ta) (hb : PE X b tb) (hm : behindInMarks op b = false) : PT X (.Compare a [op] [b] pos) (cTest (tOp r ta tb)) := by
  refine ⟨fun pins s σ H Q I q => ?_⟩
  have ho' : OpR X (compareOp op) (fun x y H Q => ∃ Q0 : VK, (∀ v H', Q0 v H' → Q v H') ∧ r x y H Q0) := by
    intro pins s σ H x y v u Q I rx ry h
    obtain ⟨Q0, w, z⟩ := h
    exact thn (ho pins s σ H x y v u Q0 I rx ry z) fun u s1 ⟨v, H1, I1, r, q1⟩ => ⟨v, H1, I1, r, w v H1 q1⟩
  have ha' : PE X a (fun σ H Q => ∃ Q0 : VK, (∀ v H', Q0 v H' → Q v H') ∧ ta σ H Q0) := run_mono ha fun _ _ _ z => z
  have hb' : PE X b (fun σ H Q => ∃ Q0 : VK, (∀ v H', Q0 v H' → Q v H') ∧ tb σ H Q0) := run_mono hb fun _ _ _ z => z
  refine (pt_cmpR ho' ha' hb' hm).run pins s σ H Q I ?_
  exact ⟨_, fun x H1 z => ⟨_, fun y H2 z2 => ⟨_, fun v H3 z3 => testM v H3 z3, z2⟩, z⟩, q⟩
def cChain (r r' : R2) (ta tb tc : TE) : TE := fun σ H Q => ta σ H fun x H1 => tb σ H1 fun y H2 => r x y H2 fun z H3 => match z with
  | .bl k => if k = true then tc σ H3 fun w' H4 => r' y w' H4 Q else Q (.bl false) H3
  | _ => False
theorem chM {A : Bool → Hp → Prop} : ∀ (v : V) (H' : Hp), (match v with | .bl k => A k H' | _ => False) → ∃ k, v = .bl k ∧ A k H' := fun v H' q => testM v H' q
theorem mono_o {f : Value → Value → Sem Value} {r : R2} (ho : OpR X f r) : OpR X f (fun x y H Q => ∃ Q0 : VK, (∀ v H', Q0 v H' → Q v H') ∧ r x y H Q0) := by
  intro pins s σ H x y v u Q I rx ry h
  obtain ⟨Q0, w, z⟩ := h
  exact thn (ho pins s σ H x y v u Q0 I rx ry z) fun u s1 ⟨v, H1, I1, r, q1⟩ => ⟨v, H1, I1, r, w v H1 q1⟩
theorem mono_e {e : Expr} {t : TE} (h : PE X e t) : PE X e (fun σ H Q => ∃ Q0 : VK, (∀ v H', Q0 v H' → Q v H') ∧ t σ H Q0) := run_mono h fun _ _ _ z => z
theorem mono_t {e : Expr} {t : TT} (h : PT X e t) : PT X e (fun σ H Q => ∃ Q0 : Bool → Hp → Prop, (∀ v H', Q0 v H' → Q v H') ∧ t σ H Q0) := run_monoT h fun _ _ _ z => z
theorem pe_chainU {op op' : CmpOp} {r r' : R2} (ho : OpR X (compareOp op) r) (ho' : OpR X (compareOp op') r') (ha : PE X a ta) (hb : PE X b tb) (hc : PE X c tc)
    (hm : lastMarks [op, op'] [b, c] = false := by with_unfolding_all rfl) : PE X (.Compare a [op, op'] [b, c] pos) (cChain r r' ta tb tc) :=
  imp_e (pe_chain (mono_o ho) ho' (mono_e ha) (mono_e hb) hc hm) fun σ H Q q => ⟨_, fun x H1 z => ⟨_, fun y H2 z2 => ⟨_, fun v H3 z3 => testM (Q := fun k H3 => if k = true then tc σ H3 fun w' H4 => r' y w' H4 Q else Q (.bl false) H3) v H3 z3, z2⟩, z⟩, q⟩
theorem pt_chainU {op op' : CmpOp} {r r' : R2} (ho : OpR X (compareOp op) r) (ho' : OpR X (compareOp op') r') (ha : PE X a ta) (hb : PE X b tb) (hc : PE X c tc)
    (hm : lastMarks [op, op'] [b, c] = false := by with_unfolding_all rfl) : PT X (.Compare a [op, op'] [b, c] pos) (cTest (cChain r r' ta tb tc)) := by
  refine imp_t (pt_chain (mono_o ho) (mono_o ho') (mono_e ha) (mono_e hb) (mono_e hc) hm) fun σ H Q q => ?_
  refine ⟨_, fun x H1 z => ⟨_, fun y H2 z2 => ⟨_, fun v H3 z3 => ?_, z2⟩, z⟩, q⟩
  obtain ⟨k, e, z4⟩ := testM (Q := fun k H3 => if k = true then tc σ H3 fun w' H4 => r' y w' H4 _ else _) v H3 z3
  refine ⟨k, e, ?_⟩
  cases k with
  | true =>
    rw [if_pos rfl] at z4 ⊢
    exact ⟨_, fun w' H4 z5 => ⟨_, fun v H5 z6 => testM v H5 z6, z5⟩, z4⟩
  | false =>
    rw [if_neg Bool.false_ne_true] at z4 ⊢
    exact ⟨false, rfl, z4⟩
/-- a value's truth -/
def cTru (K : PySem.W.Frag) (x : V) (H : Hp) (Q : Bool → Hp → Prop) : Prop := match x with
  | .non => Q false H
  | .bl b => Q b H
  | .int i => Q (i != 0) H
  | .str y => y.length ≤ sizeLine ∧ Q ((y.length : Int) != 0) H
  | .ref p => ∃ k, TruV K (.ref p) H k ∧ Q k H
  | _ => False
theorem cTru.ex {K : PySem.W.Frag} {x : V} {H : Hp} {Q : Bool → Hp → Prop} (h : cTru K x H Q) : ∃ k, TruV K x H k ∧ Q k H := by
  cases x with
  | non => exact ⟨false, rfl, h⟩
  | bl b => exact ⟨b, rfl, h⟩
  | int i => exact ⟨_, rfl, h⟩
  | str y => exact ⟨_, ⟨h.1, rfl⟩, h.2⟩
  | ref p => exact h
  | byt _ => exact h.elim
  | flt _ => exact h.elim
  | ty _ => exact h.elim
def cAnd (K : PySem.W.Frag) (ta tb : TE) : TE := fun σ H Q => ta σ H fun x H1 => cTru K x H1 fun k H1 => if k = true then tb σ H1 Q else Q x H1
def cOr (K : PySem.W.Frag) (ta tb : TE) : TE := fun σ H Q => ta σ H fun x H1 => cTru K x H1 fun k H1 => if k = true then Q x H1 else tb σ H1 Q
def cNot (K : PySem.W.Frag) (ta : TE) : TE := fun σ H Q => ta σ H fun x H1 => cTru K x H1 fun k H1 => Q (.bl (!k)) H1
def cTruth (K : PySem.W.Frag) (ta : TE) : TT := fun σ H Q => ta σ H fun x H1 => cTru K x H1 Q
theorem cTru.at {K : PySem.W.Frag} {x : V} {H : Hp} {Q : Bool → Hp → Prop} (h : cTru K x H Q) : ∃ k, TruV K x H k ∧ Q k H := h.ex
theorem pe_andU {K : PySem.W.Frag} (ha : PE X a ta) (hb : PE X (.BoolOp .And (b :: rest) pos) tb) (hK : X.K = K := by rfl) : PE X (.BoolOp .And (a :: b :: rest) pos) (cAnd K ta tb) :=
  hK ▸ imp_e (pe_andT (mono_e ha) hb) fun σ H Q q => ⟨_, fun x H1 z => (cTru.at z : ∃ k, TruV X.K x H1 k ∧ if k = true then tb σ H1 Q else Q x H1), q⟩
theorem pe_orU {K : PySem.W.Frag} (ha : PE X a ta) (hb : PE X (.BoolOp .Or (b :: rest) pos) tb) (hK : X.K = K := by rfl) : PE X (.BoolOp .Or (a :: b :: rest) pos) (cOr K ta tb) :=
  hK ▸ imp_e (pe_orT (mono_e ha) hb) fun σ H Q q => ⟨_, fun x H1 z => (cTru.at z : ∃ k, TruV X.K x H1 k ∧ if k = true then Q x H1 else tb σ H1 Q), q⟩
theorem pe_notU {K : PySem.W.Frag} (ha : PE X a ta) (hK : X.K = K := by rfl) : PE X (.UnaryOp .Not a pos) (cNot K ta) :=
  hK ▸ imp_e (pe_notT (mono_e ha)) fun σ H Q q => ⟨_, fun x H1 z => (cTru.at z : ∃ k, TruV X.K x H1 k ∧ Q (.bl (!k)) H1), q⟩
theorem pt_truthU {K : PySem.W.Frag} (ha : PE X a ta) (he : ∀ whole, isTrue a X.env whole = (do let v ← whole; standAt a.pos; holding [v] (truthy v))) (hK : X.K = K := by rfl) : PT X a (cTruth K ta) :=
  hK ▸ imp_t (pt_truth (mono_e ha) he) fun σ H Q q => ⟨_, fun x H1 z => (cTru.at z : ∃ k, TruV X.K x H1 k ∧ Q k H1), q⟩
end
/-! ### operators -/
section
variable {X : Cx}
def rAddU (K : PySem.W.Frag) : R2 := fun x y H Q => match x, y with
  | .int i, .int j => Q (.int (i + j)) H
  | .str a, .str b => a.length + b.length ≤ sizeLine ∧ Q (.str (a ++ b)) H
  | .ref a, .ref b => rCat (.ref a) (.ref b) H Q ∨ rCatT K (.ref a) (.ref b) H Q
  | _, _ => False
theorem opU_add {K : PySem.W.Frag} (hK : X.K = K := by rfl) : OpR X (binaryOp .Add) (rAddU K) := hK ▸ imp_o (op_add.or (op_add_str.or (op_cat.or op_catT))) fun x y H Q q => by
  unfold rAddU at q
  split at q
  · exact .inl ⟨_, _, rfl, rfl, q⟩
  · exact .inr (.inl ⟨_, _, rfl, rfl, q.1, q.2⟩)
  · exact .inr (.inr q)
  · exact q.elim
def rSubU : R2 := fun x y H Q => match x, y with
  | .int i, .int j => Q (.int (i - j)) H
  | _, _ => False
theorem opU_sub : OpR X (binaryOp .Sub) rSubU := imp_o op_sub fun x y H Q q => by
  unfold rSubU at q
  split at q
  · exact ⟨_, _, rfl, rfl, q⟩
  · exact q.elim
def rMulU : R2 := fun x y H Q => match x, y with
  | .int i, .int j => (CMul i j ∨ CMulW i j) ∧ Q (.int (i * j)) H
  | .ref a, .int k => rRep (.ref a) (.int k) H Q
  | _, _ => False
theorem opU_mul : OpR X (binaryOp .Mult) rMulU := imp_o (op_mul.or (op_mulW.or op_rep)) fun x y H Q q => by
  unfold rMulU at q
  split at q
  · rcases q.1 with c | c
    · exact .inl ⟨_, _, rfl, rfl, c, q.2⟩
    · exact .inr (.inl ⟨_, _, rfl, rfl, c, q.2⟩)
  · exact .inr (.inr q)
  · exact q.elim
def rModU : R2 := fun x y H Q => match x, y with
  | .int i, .int j => 0 < j ∧ Q (.int (i % j)) H
  | _, _ => False
theorem opU_mod : OpR X (binaryOp .Mod) rModU := imp_o op_mod fun x y H Q q => by
  unfold rModU at q
  split at q
  · exact ⟨_, _, rfl, rfl, q.1, q.2⟩
  · exact q.elim
def rDivU : R2 := fun x y H Q => match x, y with
  | .int i, .int j => CDivW i j ∧ Q (.int (i / j)) H
  | _, _ => False
theorem opU_div : OpR X (binaryOp .FloorDiv) rDivU := imp_o op_fdivW fun x y H Q q => by
  unfold rDivU at q
  split at q
  · exact ⟨_, _, rfl, rfl, q.1, q.2⟩
  · exact q.elim
def rPowU : R2 := fun x y H Q => match x, y with
  | .int i, .int j => CPow i j ∧ Q (.int (i ^ j.toNat)) H
  | _, _ => False
theorem opU_pow : OpR X (binaryOp .Pow) rPowU := imp_o op_pow fun x y H Q q => by
  unfold rPowU at q
  split at q
  · exact ⟨_, _, rfl, rfl, q.1, q.2⟩
  · exact q.elim
def rNegU : V → Hp → VK → Prop := fun x H Q => match x with
  | .int i => Q (.int (-i)) H
  | _ => False
theorem unU_neg : UnR X (unaryOp .USub) rNegU := fun pins s σ H x v Q I rx q => un_neg pins s σ H x v Q I rx (by
  unfold rNegU at q
  split at q
  · exact ⟨_, rfl, q⟩
  · exact q.elim)
/-- order -/
def rOrd (f : Int → Int → Bool) (g : List Nat → List Nat → Bool) : R2 := fun x y H Q => match x, y with
  | .int i, .int j => Q (.bl (f i j)) H
  | .str a, .str b => Q (.bl (g a.cps.toList b.cps.toList)) H
  | _, _ => False
theorem opU_lt : OpR X (compareOp .Lt) (rOrd (fun i j => decide (i < j)) fun a b => decide (a < b)) := imp_o (op_lt.or op_lt_str) fun x y H Q q => by
  unfold rOrd at q
  split at q
  · exact .inl ⟨_, _, rfl, rfl, q⟩
  · exact .inr ⟨_, _, rfl, rfl, q⟩
  · exact q.elim
def rLeU : R2 := fun x y H Q => match x, y with
  | .int i, .int j => Q (.bl (decide (i ≤ j))) H
  | .str a, .str b => Q (.bl (!decide (b.cps.toList < a.cps.toList))) H
  | _, _ => False
theorem opU_le : OpR X (compareOp .LtE) rLeU := imp_o (op_le.or op_le_str) fun x y H Q q => by
  unfold rLeU at q
  split at q
  · exact .inl ⟨_, _, rfl, rfl, q⟩
  · exact .inr ⟨_, _, rfl, rfl, q⟩
  · exact q.elim
def rGtU : R2 := fun x y H Q => match x, y with
  | .int i, .int j => Q (.bl (decide (j < i))) H
  | _, _ => False
theorem opU_gt : OpR X (compareOp .Gt) rGtU := imp_o op_gt fun x y H Q q => by
  unfold rGtU at q
  split at q
  · exact ⟨_, _, rfl, rfl, q⟩
  · exact q.elim
def rGeU : R2 := fun x y H Q => match x, y with
  | .int i, .int j => Q (.bl (decide (j ≤ i))) H
  | _, _ => False
theorem opU_ge : OpR X (compareOp .GtE) rGeU := imp_o op_ge fun x y H Q q => by
  unfold rGeU at q
  split at q
  · exact ⟨_, _, rfl, rfl, q⟩
  · exact q.elim
/-- == -/
def rEqU (K : PySem.W.Frag) : R2 := fun x y H Q => match scal x y with | true => Q (.bl (decide (x = y))) H | false => rEqD K x y H Q
def rNeU (K : PySem.W.Frag) : R2 := fun x y H Q => match scal x y with | true => Q (.bl (!decide (x = y))) H | false => rNeD K x y H Q
theorem roomU {k : Nat} {A : Around} (r : Room k A) : A.units + 64 < cLine := by have := r.un; omega
theorem opU_eq {K : PySem.W.Frag} {k : Nat} (r : Room k X.A) (hK : X.K = K := by rfl) : OpR X (compareOp .Eq) (rEqU K) := hK ▸ imp_o (op_eq.or (op_eqD (roomU r))) fun x y H Q q => by
  unfold rEqU at q
  split at q
  · rename_i e
    exact .inl ⟨e, q⟩
  · exact .inr q
theorem opU_ne {K : PySem.W.Frag} {k : Nat} (r : Room k X.A) (hK : X.K = K := by rfl) : OpR X (compareOp .NotEq) (rNeU K) := hK ▸ imp_o (op_ne.or (op_neD (roomU r))) fun x y H Q q => by
  unfold rNeU at q
  split at q
  · rename_i e
    exact .inl ⟨e, q⟩
  · exact .inr q
def rIsU (n : Bool) : R2 := fun x y H Q => match y with
  | .non => Q (.bl (n != decide (x = .non))) H
  | .bl b => (match x with | .bl a => Q (.bl (n != decide (a = b))) H | _ => False)
  | _ => False
theorem opU_is : OpR X (compareOp .Is) (rIsU false) := imp_o (op_isN.or op_isBl) fun x y H Q q => by
  unfold rIsU at q
  split at q
  · exact .inl ⟨rfl, by simpa using q⟩
  · split at q
    · exact .inr ⟨_, _, rfl, rfl, by simpa using q⟩
    · exact q.elim
  · exact q.elim
theorem opU_isnot : OpR X (compareOp .IsNot) (rIsU true) := imp_o (op_notN.or op_notBl) fun x y H Q q => by
  unfold rIsU at q
  split at q
  · exact .inl ⟨rfl, by simpa using q⟩
  · split at q
    · exact .inr ⟨_, _, rfl, rfl, by simpa using q⟩
    · exact q.elim
  · exact q.elim
/-- in -/
def rInU (K : PySem.W.Frag) (n : Bool) : R2 := fun x y H Q => match y with
  | .str z => (match x with
    | .str s => ∃ c, s = ⟨#[c]⟩ ∧ (match n with | true => Q (.bl (!decide (c ∈ z.cps.toList))) H | false => Q (.bl (decide (c ∈ z.cps.toList))) H)
    | _ => False)
  | .ref p => ∃ xs, (SqL K H p xs ∨ SqT K H p xs) ∧ flatV x = true ∧ xs.all flatV = true ∧ (match n with | true => Q (.bl (!inV x xs)) H | false => Q (.bl (inV x xs)) H)
  | _ => False
theorem opU_in {K : PySem.W.Frag} (hK : X.K = K := by rfl) : OpR X (compareOp .In) (rInU K false) := hK ▸ imp_o (op_in_sign.or op_in_seq) fun x y H Q q => by
  unfold rInU at q
  split at q
  · split at q
    · obtain ⟨c, rfl, q⟩ := q
      exact .inl ⟨c, _, rfl, rfl, q⟩
    · exact q.elim
  · obtain ⟨xs, h1, h2, h3, q⟩ := q
    exact .inr ⟨_, xs, rfl, h1, h2, h3, q⟩
  · exact q.elim
theorem opU_notin {K : PySem.W.Frag} (hK : X.K = K := by rfl) : OpR X (compareOp .NotIn) (rInU K true) := hK ▸ imp_o (op_notIn_sign.or op_notIn_seq) fun x y H Q q => by
  unfold rInU at q
  split at q
  · split at q
    · obtain ⟨c, rfl, q⟩ := q
      exact .inl ⟨c, _, rfl, rfl, q⟩
    · exact q.elim
  · obtain ⟨xs, h1, h2, h3, q⟩ := q
    exact .inr ⟨_, xs, rfl, h1, h2, h3, q⟩
  · exact q.elim
/-- x[i] -/
def rIxU (K : PySem.W.Frag) : R2 := fun x y H Q => match x, y with
  | .str z, .int i => z.length ≤ sizeLine ∧ ∃ c, atI z.cps.toList i = some c ∧ Q (.str ⟨#[c]⟩) H
  | .ref p, .int i => ∃ xs v, (SqL K H p xs ∨ SqT K H p xs) ∧ atI xs i = some v ∧ Q v H
  | _, _ => False
theorem ixU {K : PySem.W.Frag} (hK : X.K = K := by rfl) : IxR X (rIxU K) := by
  subst hK
  intro value slice pins s σ H x y v u Q I rx ry q hs
  refine ix_seq value slice pins s σ H x y v u Q I rx ry ?_ hs
  unfold rIxU at q
  split at q
  · obtain ⟨h1, c, h2, q⟩ := q
    exact .inr (.inr ⟨_, _, c, rfl, rfl, h1, h2, q⟩)
  · obtain ⟨xs, w, h1 | h1, h2, q⟩ := q
    · exact .inl ⟨_, xs, _, w, rfl, rfl, h1, h2, q⟩
    · exact .inr (.inl ⟨_, xs, _, w, rfl, rfl, h1, h2, q⟩)
  · exact q.elim
/-- x[i:j] -/
def rSlU (K : PySem.W.Frag) : V → Option Int → Option Int → Hp → VK → Prop := fun x lo hi H Q => match x with
  | .str z => z.length ≤ sizeLine ∧ Q (.str (cutS z lo hi)) H
  | .ref p => rSlL K (.ref p) lo hi H Q ∨ rSlT K (.ref p) lo hi H Q
  | _ => False
theorem slU {K : PySem.W.Frag} (hK : X.K = K := by rfl) : SlR X (rSlU K) := by
  subst hK
  intro pins s σ H x v vl vu lo hi sl Q I rx hs pl pu q
  refine (sl_str.or (sl_list.or sl_tup)) pins s σ H x v vl vu lo hi sl Q I rx hs pl pu ?_
  unfold rSlU at q
  split at q
  · exact .inl ⟨_, rfl, q.1, q.2⟩
  · exact .inr q
  · exact q.elim
def cPart (t : TE) : TO := fun σ H Q => t σ H fun x H1 => match x with | .int i => Q (some i) H1 | _ => False
theorem imp_po {e : Option Expr} {t t' : TO} (h : PO X e t) (i : ∀ σ H Q, t' σ H Q → t σ H Q) : PO X e t' := ⟨fun pins s σ H Q I q => h.run pins s σ H Q I (i σ H Q q)⟩
theorem po_someU {e : Expr} {t : TE} (h : PE X e t) : PO X (some e) (cPart t) := imp_po (po_some (mono_e h)) fun σ H Q q => ⟨_, fun x H1 z => by
  revert z
  cases x <;> intro z <;> first | exact ⟨_, rfl, z⟩ | exact z.elim, q⟩
/-! ### built-ins -/
def rLenU (K : PySem.W.Frag) : List V → Hp → VK → Prop := fun xs H Q => match xs with
  | [.str z] => z.length ≤ sizeLine ∧ Q (.int z.length) H
  | [.ref p] => (∃ ys, (SqL K H p ys ∨ SqT K H p ys) ∧ Q (.int ys.length) H) ∨ ∃ kvs, H p = some (.dK kvs) ∧ Q (.int kvs.length) H
  | _ => False
theorem callU_len {K : PySem.W.Frag} (hK : X.K = K := by rfl) : CallR X (.builtin "len") (rLenU K) := hK ▸ imp_c (call_len_str.or (call_len_seq.or call_lenD)) fun xs H Q q => by
  unfold rLenU at q
  split at q
  · exact .inl ⟨_, rfl, q.1, q.2⟩
  · rcases q with ⟨ys, h, q⟩ | ⟨kvs, h, q⟩
    · exact .inr (.inl ⟨_, ys, rfl, h, q⟩)
    · exact .inr (.inr ⟨_, kvs, rfl, h, q⟩)
  · exact q.elim
/-- isinstance of a value whose type is known -/
def IsiV (K : PySem.W.Frag) (H : Hp) (x : V) (n : String) (b : Bool) : Prop := ∃ t, TyX K H x t ∧ PySem.W.kitOne K t (.type n) = some b
def rIsiU (K : PySem.W.Frag) : List V → Hp → VK → Prop := fun xs H Q => match xs with
  | [x, .ty n] => ∃ b, IsiV K H x n b ∧ Q (.bl b) H
  | [x, .ref c] => rIsi K [x, .ref c] H Q ∨ rIsiT K [x, .ref c] H Q
  | _ => False
theorem callU_isi {K : PySem.W.Frag} (hK : X.K = K := by rfl) : CallR X (.builtin "isinstance") (rIsiU K) := hK ▸ imp_c (call_isi.or call_isiT) fun xs H Q q => by
  unfold rIsiU at q
  split at q
  · obtain ⟨b, ⟨t, h1, h2⟩, q⟩ := q
    exact .inl ⟨_, _, t, _, b, rfl, .ty _, h1, h2, q⟩
  · exact q
  · exact q.elim
def rIntU : List V → Hp → VK → Prop := fun xs H Q => match xs with
  | [.int i] => Q (.int i) H
  | [.bl k] => Q (.int (if k then 1 else 0)) H
  | [.str a] => ∃ n, PySem.intText? a = some n ∧ a.length ≤ 640 ∧ Q (.int n) H
  | _ => False
theorem callU_int : CallR X (.type "int") rIntU := imp_c (call_int1.or call_int_str) fun xs H Q q => by
  unfold rIntU at q
  split at q
  · exact .inl (.inl ⟨_, rfl, q⟩)
  · exact .inl (.inr ⟨_, rfl, q⟩)
  · obtain ⟨n, h1, h2, q⟩ := q
    exact .inr ⟨_, n, rfl, h1, h2, q⟩
  · exact q.elim
def rStrU : List V → Hp → VK → Prop := fun xs H Q => match xs with
  | [.int i] => i.natAbs.log2 < 1920 ∧ Q (.str (toString i)) H
  | _ => False
theorem callU_str : CallR X (.type "str") rStrU := imp_c call_str_int fun xs H Q q => by
  unfold rStrU at q
  split at q
  · exact ⟨_, rfl, q.1, q.2⟩
  · exact q.elim
def rListU (K : PySem.W.Frag) : List V → Hp → VK → Prop := fun xs H Q => match xs with
  | [.ref p] => (∃ ys, (SqL K H p ys ∨ SqT K H p ys) ∧ ∀ l, H l = none → Q (.ref l) (upd H l (.lst ys))) ∨ ∃ kvs : List (Key × V), H p = some (.dK kvs) ∧ ∀ q, H q = none → Q (.ref q) (upd H q (.lst (kvs.map fun kv => kV kv.1)))
  | _ => False
theorem callU_list {K : PySem.W.Frag} (hc : X.calm = true) (hK : X.K = K := by rfl) : CallR X (.type "list") (rListU K) := hK ▸ imp_c (call_list_of.or (call_list_dK hc)) fun xs H Q q => by
  unfold rListU at q
  split at q
  · rcases q with ⟨ys, h, q⟩ | ⟨kvs, h, q⟩
    · exact .inl ⟨_, ys, rfl, h, q⟩
    · exact .inr ⟨_, kvs, rfl, h, q⟩
  · exact q.elim
def rTupU (K : PySem.W.Frag) : List V → Hp → VK → Prop := fun xs H Q => match xs with
  | [.ref p] => ∃ ys, (SqL K H p ys ∧ ∀ l, H l = none → Q (.ref l) (upd H l (.tup ys))) ∨ (SqT K H p ys ∧ Q (.ref p) H)
  | _ => False
theorem callU_tuple {K : PySem.W.Frag} (hK : X.K = K := by rfl) : CallR X (.type "tuple") (rTupU K) := hK ▸ imp_c call_tuple_of fun xs H Q q => by
  unfold rTupU at q
  split at q
  · obtain ⟨ys, q⟩ := q
    exact ⟨_, ys, rfl, q⟩
  · exact q.elim
def rMin2U : List V → Hp → VK → Prop := fun xs H Q => match xs with
  | [.int i, .int j] => Q (.int (if j < i then j else i)) H
  | _ => False
def rMax2U : List V → Hp → VK → Prop := fun xs H Q => match xs with
  | [.int i, .int j] => Q (.int (if j > i then j else i)) H
  | _ => False
theorem callU_min2 (hc : X.calm = true) : CallR X (.builtin "min") rMin2U := imp_c (call_min2 hc) fun xs H Q q => by
  unfold rMin2U at q
  split at q
  · exact ⟨_, _, rfl, q⟩
  · exact q.elim
theorem callU_max2 (hc : X.calm = true) : CallR X (.builtin "max") rMax2U := imp_c (call_max2 hc) fun xs H Q q => by
  unfold rMax2U at q
  split at q
  · exact ⟨_, _, rfl, q⟩
  · exact q.elim
def rAllU (K : PySem.W.Frag) (f : List Bool → Bool) : List V → Hp → VK → Prop := fun xs H Q => match xs with
  | [.ref a] => ∃ bs : List Bool, SqL K H a (bs.map V.bl) ∧ Q (.bl (f bs)) H
  | _ => False
theorem callU_all {K : PySem.W.Frag} (hc : X.calm = true) (hK : X.K = K := by rfl) : CallR X (.builtin "all") (rAllU K fun bs => bs.all id) := hK ▸ imp_c (cr_all hc) fun xs H Q q => by
  unfold rAllU at q
  split at q
  · obtain ⟨bs, h, q⟩ := q
    exact ⟨_, bs, rfl, h, q⟩
  · exact q.elim
theorem callU_any {K : PySem.W.Frag} (hc : X.calm = true) (hK : X.K = K := by rfl) : CallR X (.builtin "any") (rAllU K fun bs => bs.any id) := hK ▸ imp_c (cr_any hc) fun xs H Q q => by
  unfold rAllU at q
  split at q
  · obtain ⟨bs, h, q⟩ := q
    exact ⟨_, bs, rfl, h, q⟩
  · exact q.elim
/-- xs[i] = v -/
def rSetU : V → V → V → Hp → (Hp → Prop) → Prop := fun o i v H Q => match o, i with
  | .ref p, .int k => ∃ xs j, H p = some (.lst xs) ∧ ixN xs.length k = some j ∧ Q (upd H p (.lst (xs.set j v)))
  | _, _ => False
theorem setU : PSet X rSetU := by
  intro pins s σ H o i v ov iv u Q I ro ri rv h
  refine set_list pins s σ H o i v ov iv u Q I ro ri rv ?_
  unfold rSetU at h
  split at h
  · obtain ⟨xs, j, h1, h2, q⟩ := h
    exact ⟨_, xs, _, j, rfl, rfl, h1, h2, q⟩
  · exact h.elim
end
/-! ### the rest with the written part told -/
section
variable {X : Cx} {K : PySem.W.Frag}
theorem pe_ty {x : Str} {pos : Pos} (n : String) (hm : X.mg x = none) (hv : bootBuiltins x = some (.type n) := by decide +kernel) (hg : Gl X x := by rfl) (hn : x ≠ "__name__" := by decide) (hd : (x == ("__debug__" : Str)) = false := by decide) : PE X (.Name x pos) (tC (.ty n)) :=
  pe_bltn hg hm hv rfl hn hd
theorem pi_listK {tg l : Expr} {tl : TE} (hl : PE X l tl) (hK : X.K = K := by rfl) : PI X tg l (iList K tl) := hK ▸ pi_list hl
theorem pi_tupK {tg l : Expr} {tl : TE} (hl : PE X l tl) (hK : X.K = K := by rfl) : PI X tg l (iTup K tl) := hK ▸ pi_tup hl
theorem pg_tupK {es : List Expr} {k : Nat} {t : TGs} {n : Nat} {pos : Pos} (hc : X.calm = true) (h : PGs X es t)
    (hn : (assignEach es X.env).length = n := by rfl) (hst : (assignEach es X.env).findIdx? (·.1) = none := by rfl) (hK : X.K = K := by rfl) : PG X (.Tuple es k pos) (gTup K n t) := hK ▸ pg_tup hc h hn hst
theorem pe_fldK {e : Expr} {f : Str} {ta : TE} {pos : Pos} (he : PE X e ta) (hb : attributeBase e f X.env (eval e X.env) = eval e X.env) (hK : X.K = K := by rfl) : PE X (.Attribute e f pos) (tFld K ta f) := hK ▸ pe_fld he hb
end
/-! ### defs -/
structure Ok (P : Program) (w : World) (K : PySem.W.Frag) (mg : Str → Option Value) (base : Heap) (k : Nat) (x : Str) (ps : List Str) (sp : Sp) : Prop where
  ex : ∃ f fd, mg x = some (.ref f) ∧ PySem.W.keepIn K (.ref f) = true ∧ Binds K fd ps [] ∧ FnOk P w K mg base (L2.CX P w) k f fd ps sp
structure FnAt (K : PySem.W.Frag) (mg : Str → Option Value) (x qual : Str) (st : Stmt) (ps : List Str) : Prop where
  ex : ∃ f fd, mg x = some (.ref f) ∧ Fun K x qual st f fd ∧ Binds K fd ps []
theorem okF {P : Program} {w : World} {K : PySem.W.Frag} {mg : Str → Option Value} {base : Heap} {x qual : Str} {st : Stmt} {N ps : List Str} {k : Nat} {sp : Sp} (F : FnAt K mg x qual st ps) (S : FnScope N ps (defScope st)) (len : ∀ vs H Q E, sp vs H Q E → vs.length = ps.length)
    (hbody : ∀ (f : Addr) (cdv : Value) (A : Around) (outer : List Env) (s : Shared) (H : Hp) (vs : List V) (Q : VK) (E : XK), Room k (A.deeper (envOfC qual (defScope st) s.heap.objs.size f cdv)) → sp vs H Q E →
      ∃ t, PSs (cxOf (L2.CX P w) P w K mg base N qual (defScope st) f cdv A outer s H (bE H E)) (defBody st) t ∧ t { nx := fun _ H' => bQ H Q .non H', rt := bQ H Q } (start N vs) H) : Ok P w K mg base (k + 1) x ps sp := by
  obtain ⟨f, fd, h1, h2, h3⟩ := F.ex
  exact ⟨f, fd, h1, h2.kp, h3, okX h2 S len (hbody f)⟩
section
variable {X : Cx} {k j : Nat} {x : Str} {ps : List Str} {sp : Sp} {E : XK} {p pos : Pos} {e : Expr} {es : List Expr} {t : TA}
def cCall (sp : Sp) (E : XK) (t : TA) : TE := fun σ H Q => t σ H fun vs H1 => sp vs H1 Q E
theorem pe_f (O : Ok X.prog X.w X.K X.mg X.base k x ps sp) (hr : Room k X.A) (hx : Passes (L2.CX X.prog X.w) X E) (ha : PA X (e :: es) t) (hg : Gl X x := by rfl)
    (hdb : (x == ("__debug__" : Str)) = false := by decide) (he : starEach (e :: es) X.env = (false, eval e X.env) :: starEach es X.env := by rfl) (hpl : (backTo pos (starEach es X.env)).any (·.1) = false := by rfl) :
    PE X (.Call (.Name x p) (e :: es) [] pos) (cCall sp E t) := by
  obtain ⟨f, fd, h1, h2, h3, F⟩ := O.ex
  have ha' : PA X (e :: es) (fun σ H Q => ∃ Q0 : List V → Hp → Prop, (∀ v H', Q0 v H' → Q v H') ∧ t σ H Q0) := ⟨fun pos pins s σ H Q I q => by
    obtain ⟨Q0, w, z⟩ := q
    exact thn (ha.run pos pins s σ H Q0 I z) fun u s1 ⟨v, H1, I1, r, q1⟩ => ⟨v, H1, I1, r, w v H1 q1⟩⟩
  refine imp_e (pe_call F hr hg h1 h2 h3 .nil hx ha' hdb he hpl) fun σ H Q q => ⟨_, fun vs H1 z => ?_, q⟩
  show sp (vs ++ []) H1 Q E
  rw [List.append_nil]
  exact z
theorem pe_f0 (O : Ok X.prog X.w X.K X.mg X.base k x ps sp) (hr : Room k X.A) (hx : Passes (L2.CX X.prog X.w) X E) (hg : Gl X x := by rfl)
    (hdb : (x == ("__debug__" : Str)) = false := by decide) : PE X (.Call (.Name x p) [] [] pos) (cCall sp E tNil) := by
  obtain ⟨f, fd, h1, h2, h3, F⟩ := O.ex
  exact imp_e (pe_call0 F hr hg h1 h2 h3 .nil hx hdb) fun σ H Q q => q
end
end R
namespace R
open PySem PySem.Spec PyProof.Rows L2
/-! ### arguments by their number -/
def arg1 (R : V → Prop) : List V → Prop | [a] => R a | _ => False
def arg2 (R : V → V → Prop) : List V → Prop | [a, b] => R a b | _ => False
def arg3 (R : V → V → V → Prop) : List V → Prop | [a, b, c] => R a b c | _ => False
def arg4 (R : V → V → V → V → Prop) : List V → Prop | [a, b, c, d] => R a b c d | _ => False
def arg5 (R : V → V → V → V → V → Prop) : List V → Prop | [a, b, c, d, e] => R a b c d e | _ => False
theorem arg1.ex {R : V → Prop} : ∀ {vs : List V}, arg1 R vs → ∃ a, vs = [a] ∧ R a
  | [a], h => ⟨a, rfl, h⟩
  | [], h => h.elim
  | _ :: _ :: _, h => h.elim
theorem arg2.ex {R : V → V → Prop} : ∀ {vs : List V}, arg2 R vs → ∃ a b, vs = [a, b] ∧ R a b
  | [a, b], h => ⟨a, b, rfl, h⟩
  | [], h => h.elim
  | [_], h => h.elim
  | _ :: _ :: _ :: _, h => h.elim
theorem arg3.ex {R : V → V → V → Prop} : ∀ {vs : List V}, arg3 R vs → ∃ a b c, vs = [a, b, c] ∧ R a b c
  | [a, b, c], h => ⟨a, b, c, rfl, h⟩
  | [], h => h.elim
  | [_], h => h.elim
  | [_, _], h => h.elim
  | _ :: _ :: _ :: _ :: _, h => h.elim
theorem arg4.ex {R : V → V → V → V → Prop} : ∀ {vs : List V}, arg4 R vs → ∃ a b c d, vs = [a, b, c, d] ∧ R a b c d
  | [a, b, c, d], h => ⟨a, b, c, d, rfl, h⟩
  | [], h => h.elim
  | [_], h => h.elim
  | [_, _], h => h.elim
  | [_, _, _], h => h.elim
  | _ :: _ :: _ :: _ :: _ :: _, h => h.elim
theorem arg5.ex {R : V → V → V → V → V → Prop} : ∀ {vs : List V}, arg5 R vs → ∃ a b c d e, vs = [a, b, c, d, e] ∧ R a b c d e
  | [a, b, c, d, e], h => ⟨a, b, c, d, e, rfl, h⟩
  | [], h => h.elim
  | [_], h => h.elim
  | [_, _], h => h.elim
  | [_, _, _], h => h.elim
  | [_, _, _, _], h => h.elim
  | _ :: _ :: _ :: _ :: _ :: _ :: _, h => h.elim
def arg6 (R : V → V → V → V → V → V →  Prop) : List V → Prop | [a, b, c, d, e, f] => R a b c d e f | _ => False
theorem arg6.ex {R : V → V → V → V → V → V →  Prop} : ∀ {vs : List V}, arg6 R vs → ∃ a b c d e f, vs = [a, b, c, d, e, f] ∧ R a b c d e f
  | [a, b, c, d, e, f], h => ⟨a, b, c, d, e, f, rfl, h⟩
  | [], h => h.elim
  | [_], h => h.elim
  | [_, _], h => h.elim
  | [_, _, _], h => h.elim
  | [_, _, _, _], h => h.elim
  | [_, _, _, _, _], h => h.elim
  | _ :: _ :: _ :: _ :: _ :: _ :: _ :: _, h => h.elim
def arg7 (R : V → V → V → V → V → V → V →  Prop) : List V → Prop | [a, b, c, d, e, f, g] => R a b c d e f g | _ => False
theorem arg7.ex {R : V → V → V → V → V → V → V →  Prop} : ∀ {vs : List V}, arg7 R vs → ∃ a b c d e f g, vs = [a, b, c, d, e, f, g] ∧ R a b c d e f g
  | [a, b, c, d, e, f, g], h => ⟨a, b, c, d, e, f, g, rfl, h⟩
  | [], h => h.elim
  | [_], h => h.elim
  | [_, _], h => h.elim
  | [_, _, _], h => h.elim
  | [_, _, _, _], h => h.elim
  | [_, _, _, _, _], h => h.elim
  | [_, _, _, _, _, _], h => h.elim
  | _ :: _ :: _ :: _ :: _ :: _ :: _ :: _ :: _, h => h.elim
def arg8 (R : V → V → V → V → V → V → V → V →  Prop) : List V → Prop | [a, b, c, d, e, f, g, h] => R a b c d e f g h | _ => False
theorem arg8.ex {R : V → V → V → V → V → V → V → V →  Prop} : ∀ {vs : List V}, arg8 R vs → ∃ a b c d e f g h, vs = [a, b, c, d, e, f, g, h] ∧ R a b c d e f g h
  | [a, b, c, d, e, f, g, h], hyp => ⟨a, b, c, d, e, f, g, h, rfl, hyp⟩
  | [], h => h.elim
  | [_], h => h.elim
  | [_, _], h => h.elim
  | [_, _, _], h => h.elim
  | [_, _, _, _], h => h.elim
  | [_, _, _, _, _], h => h.elim
  | [_, _, _, _, _, _], h => h.elim
  | [_, _, _, _, _, _, _], h => h.elim
  | _ :: _ :: _ :: _ :: _ :: _ :: _ :: _ :: _ :: _, h => h.elim
def arg9 (R : V → V → V → V → V → V → V → V → V →  Prop) : List V → Prop | [a, b, c, d, e, f, g, h, i] => R a b c d e f g h i | _ => False
theorem arg9.ex {R : V → V → V → V → V → V → V → V → V →  Prop} : ∀ {vs : List V}, arg9 R vs → ∃ a b c d e f g h i, vs = [a, b, c, d, e, f, g, h, i] ∧ R a b c d e f g h i
  | [a, b, c, d, e, f, g, h, i], hyp => ⟨a, b, c, d, e, f, g, h, i, rfl, hyp⟩
  | [], h => h.elim
  | [_], h => h.elim
  | [_, _], h => h.elim
  | [_, _, _], h => h.elim
  | [_, _, _, _], h => h.elim
  | [_, _, _, _, _], h => h.elim
  | [_, _, _, _, _, _], h => h.elim
  | [_, _, _, _, _, _, _], h => h.elim
  | [_, _, _, _, _, _, _, _], h => h.elim
  | _ :: _ :: _ :: _ :: _ :: _ :: _ :: _ :: _ :: _ :: _, h => h.elim
/-! ### heaps -/
theorem same_new {H : Hp} {p : Addr} {o : HO} (h : H p = none) : Same H (upd H p o) := fun b u e => by
  rw [upd_ne (ne_of_none e h)]
  exact e
theorem Wf.set {H : Hp} {p : Addr} {o : HO} (w : Wf H) (f : Flat o) (h : ∀ x, H p ≠ some (.own x)) : Wf (upd H p o) := fun a u e => by
  by_cases ha : a = p
  · subst ha
    rw [upd_same] at e
    cases e
    exact .inl f
  · rw [upd_ne ha] at e
    rcases w a u e with q | ⟨C, dx, fs, rfl, hd⟩
    · exact .inl q
    · refine .inr ⟨C, dx, fs, rfl, ?_⟩
      rw [upd_ne (fun z => h a (by rw [← z]; exact hd))]
      exact hd
theorem Wf.new {H : Hp} {p : Addr} {o : HO} (w : Wf H) (f : Flat o) (h : H p = none) : Wf (upd H p o) := w.set f fun x z => by rw [h] at z; cases z
theorem Wf.at {H : Hp} {p : Addr} {o u : HO} (w : Wf H) (f : Flat o) (h : H p = some u) (hu : ∀ x, u ≠ .own x) : Wf (upd H p o) := w.set f fun x z => by
  rw [h] at z
  exact hu x (Option.some.inj z)
theorem bQ.same {H H' : Hp} {Q : VK} {v : V} (w : Wf H) (s : Same H H') (q : Q v H) : bQ H Q v H' := ⟨H, ⟨s, fun a o e => by rw [e, s a o e], w⟩, q⟩
/-! ### a list of two numbers from which digits are drawn -/
def stL (p q : Int) : HO := .lst [.int p, .int q]
/-- it stands at a, its first number not below nought -/
def St2 (H : Hp) (a : Addr) : Prop := ∃ p q, H a = some (stL p q) ∧ 0 ≤ p
/-- all but it is as it was -/
structure Dr (a : Addr) (H H' : Hp) : Prop where
  kp : ∀ b o, b ≠ a → H b = some o → H' b = some o
  st : St2 H' a
  wf : Wf H'
theorem Dr.refl {a : Addr} {H : Hp} (s : St2 H a) (w : Wf H) : Dr a H H := ⟨fun _ _ _ h => h, s, w⟩
theorem Dr.trans {a : Addr} {H H1 H2 : Hp} (x : Dr a H H1) (y : Dr a H1 H2) : Dr a H H2 := ⟨fun b o n e => y.kp b o n (x.kp b o n e), y.st, y.wf⟩
theorem Dr.drawn {a : Addr} {H H1 : Hp} {p q : Int} (x : Dr a H H1) (h : 0 ≤ p) : Dr a H (upd H1 a (stL p q)) := by
  obtain ⟨p0, q0, e, _⟩ := x.st
  refine ⟨fun b o n e => ?_, ⟨p, q, upd_same, h⟩, x.wf.at trivial e fun x z => by cases z⟩
  rw [upd_ne n]
  exact x.kp b o n e
theorem Dr.new {a p : Addr} {o : HO} {H H1 : Hp} (x : Dr a H H1) (h : H1 p = none) (f : Flat o) : Dr a H (upd H1 p o) := by
  obtain ⟨p0, q0, e, h0⟩ := x.st
  refine ⟨fun b u n e => ?_, ⟨p0, q0, ?_, h0⟩, x.wf.new f h⟩
  · have q := x.kp b u n e
    rw [upd_ne (ne_of_none q h)]
    exact q
  · rw [upd_ne (ne_of_none e h)]
    exact e
theorem Dr.done {a : Addr} {H H' : Hp} {Q : VK} {v : V} (x : Dr a H H') (w : Wf H) (s : St2 H a) (q : ∀ p q, 0 ≤ p → Q v (upd H a (stL p q))) : bQ H Q v H' := by
  obtain ⟨p, q0, e, h⟩ := x.st
  obtain ⟨p1, q1, e1, _⟩ := s
  refine ⟨upd H a (stL p q0), ⟨fun b o z => ?_, fun b o z => ?_, w.at trivial e1 fun x z => by cases z⟩, q p q0 h⟩
  · by_cases hb : b = a
    · subst hb
      rw [upd_same] at z
      rw [e, z]
    · rw [upd_ne hb] at z
      exact x.kp b o hb z
  · by_cases hb : b = a
    · subst hb
      rw [upd_same, e]
    · rw [upd_ne hb, z, x.kp b o hb z]
theorem Dr.at {a b : Addr} {o : HO} {H H' : Hp} (x : Dr a H H') (h : H b = some o) (n : ∀ p q, o ≠ stL p q) (s : St2 H a) : H' b = some o := by
  obtain ⟨p, q, e, _⟩ := s
  exact x.kp b o (fun z => by subst z; rw [h] at e; exact n p q (Option.some.inj e)) h
/-- a place in a list, a text -/
theorem at_lt {α : Type} {xs : List α} {i : Int} (h0 : 0 ≤ i) (h1 : i < xs.length) : ∃ v, atI xs i = some v ∧ v ∈ xs := by
  obtain ⟨j, rfl⟩ : ∃ j : Nat, i = j := ⟨i.toNat, by omega⟩
  have hj : j < xs.length := by omega
  exact ⟨xs[j], atI_nat (List.getElem?_eq_getElem hj), List.getElem_mem hj⟩
theorem line_of {n : Nat} (h : n ≤ 16777216) : n ≤ sizeLine := by rw [sizeLine_eq]; exact h
theorem line_lt {n : Nat} (h : n < 16777216) : n < sizeLine := by rw [sizeLine_eq]; exact h
/-! ### types of values -/
def Known (K : PySem.W.Frag) (H : Hp) (v : V) : Prop := match v with
  | .non => True
  | .bl _ => True
  | .int _ => True
  | .str _ => True
  | .ref p => (∃ xs, H p = some (.lst xs)) ∨ (∃ xs, H p = some (.tup xs)) ∨ ∃ kvs, H p = some (.dK kvs)
  | _ => False
def isStr : V → Bool | .str _ => true | _ => false
def isInt : V → Bool | .int _ => true | .bl _ => true | _ => false
def isBl : V → Bool | .bl _ => true | _ => false
section
variable {K : PySem.W.Frag} {H : Hp}
theorem isi_ty {x : V} {n m : String} {b : Bool} (h : TyX K H x (.type n)) (e : kitB n m = some b) : IsiV K H x m b := ⟨_, h, kit_ty e⟩
theorem isi_str : ∀ {v : V}, Known K H v → IsiV K H v "str" (isStr v)
  | .non, _ => isi_ty (b := false) (.base .non) (by decide +kernel)
  | .bl _, _ => isi_ty (b := false) (.base (.bl _)) (by decide +kernel)
  | .int _, _ => isi_ty (b := false) (.base (.int _)) (by decide +kernel)
  | .str _, _ => isi_ty (b := true) (.base (.str _)) (by decide +kernel)
  | .ref _, .inl ⟨_, h⟩ => isi_ty (b := false) (.base (.lst h)) (by decide +kernel)
  | .ref _, .inr (.inl ⟨_, h⟩) => isi_ty (b := false) (.base (.tup h)) (by decide +kernel)
  | .ref _, .inr (.inr ⟨_, h⟩) => isi_ty (b := false) (.base (.dK h)) (by decide +kernel)
theorem isi_int : ∀ {v : V}, Known K H v → IsiV K H v "int" (isInt v)
  | .non, _ => isi_ty (b := false) (.base .non) (by decide +kernel)
  | .bl _, _ => isi_ty (b := true) (.base (.bl _)) (by decide +kernel)
  | .int _, _ => isi_ty (b := true) (.base (.int _)) (by decide +kernel)
  | .str _, _ => isi_ty (b := false) (.base (.str _)) (by decide +kernel)
  | .ref _, .inl ⟨_, h⟩ => isi_ty (b := false) (.base (.lst h)) (by decide +kernel)
  | .ref _, .inr (.inl ⟨_, h⟩) => isi_ty (b := false) (.base (.tup h)) (by decide +kernel)
  | .ref _, .inr (.inr ⟨_, h⟩) => isi_ty (b := false) (.base (.dK h)) (by decide +kernel)
theorem isi_bool : ∀ {v : V}, Known K H v → IsiV K H v "bool" (isBl v)
  | .non, _ => isi_ty (b := false) (.base .non) (by decide +kernel)
  | .bl _, _ => isi_ty (b := true) (.base (.bl _)) (by decide +kernel)
  | .int _, _ => isi_ty (b := false) (.base (.int _)) (by decide +kernel)
  | .str _, _ => isi_ty (b := false) (.base (.str _)) (by decide +kernel)
  | .ref _, .inl ⟨_, h⟩ => isi_ty (b := false) (.base (.lst h)) (by decide +kernel)
  | .ref _, .inr (.inl ⟨_, h⟩) => isi_ty (b := false) (.base (.tup h)) (by decide +kernel)
  | .ref _, .inr (.inr ⟨_, h⟩) => isi_ty (b := false) (.base (.dK h)) (by decide +kernel)
end
end R
namespace R
open PySem PySem.Spec PyProof.Rows L2
theorem iteP {p : Prop} [Decidable p] {A B : Prop} (h : p) (a : A) : if decide p = true then A else B := by
  rw [if_pos (decide_eq_true h)]
  exact a
theorem iteN {p : Prop} [Decidable p] {A B : Prop} (h : ¬ p) (b : B) : if decide p = true then A else B := by
  rw [if_neg (by rw [decide_eq_false h]; exact Bool.false_ne_true)]
  exact b
theorem iteC {p : Prop} [Decidable p] {A B : Prop} (a : p → A) (b : ¬ p → B) : if decide p = true then A else B := by
  by_cases h : p
  · exact iteP h (a h)
  · exact iteN h (b h)
/-- a comprehension without tests whose element changes nothing -/
theorem lc_map {J : It} {n : Nat} {G : Hp → Prop} {Y : Nat → Hp → V → Hp → Prop} (w : Walk J n G Y) (It' : Nat → V → Prop) (hy : ∀ i H x H', Y i H x H' → H' = H ∧ It' i x) (f : Nat → V) {g : TG} {te : TE} {vs : List Nat} {σ : L2.St} {H1 : Hp} {D : Addr} {Qd : Hp → Prop}
    (hn : n < sizeLine) (hG : ∀ o, G (upd H1 D o))
    (hs : ∀ (i : Nat) (x : V) (acc : List V) (C : V → Hp → Prop), i < n → It' i x → C (f i) (upd H1 D (.lst acc)) → g x (wipe σ vs) (upd H1 D (.lst acc)) fun σ2 H2 => wipe σ2 vs = wipe σ vs ∧ te σ2 H2 C)
    (hd : Qd (upd H1 D (.lst ((List.range n).map f)))) :
    ∃ W : Nat → Nat → Hp → Prop, (∃ m, W 0 m (upd H1 D (.lst []))) ∧ ∀ i m H, W i m H →
      (J.stop i H ∧ Qd H) ∨ (J.go i H ∧ ∃ Nx : Hp → Prop, (∀ H', Nx H' → ∃ m', m' < m ∧ W (i + 1) m' H') ∧ ∀ x H', J.yld i H x H' → g x (wipe σ vs) H' fun σ2 H2 => wipe σ2 vs = wipe σ vs ∧ tYes σ2 H2 fun b H3 =>
        if b = true then te σ2 H3 fun y H4 => ∃ acc, H4 D = some (.lst acc) ∧ acc.length < sizeLine ∧ Nx (upd H4 D (.lst (acc ++ [y]))) else Nx H3) := by
  refine ⟨fun i m H => m = n - i ∧ i ≤ n ∧ H = upd H1 D (.lst ((List.range i).map f)), ⟨n, by simp, Nat.zero_le _, rfl⟩, ?_⟩
  rintro i m H ⟨rfl, hi, rfl⟩
  by_cases hlt : i < n
  · refine .inr ⟨w.goes i _ hlt (hG _), fun H' => H' = upd H1 D (.lst ((List.range (i + 1)).map f)), fun H' e => ⟨n - (i + 1), by omega, rfl, hlt, e⟩, fun x H' y => ?_⟩
    obtain ⟨rfl, hx⟩ := hy _ _ _ _ (w.yields i _ x H' hlt (hG _) y)
    refine hs i x _ (fun y H4 => ∃ acc, H4 D = some (.lst acc) ∧ acc.length < sizeLine ∧ upd H4 D (.lst (acc ++ [y])) = upd H1 D (.lst ((List.range (i + 1)).map f))) hlt hx ⟨_, upd_same, ?_, ?_⟩
    · rw [List.length_map, List.length_range]
      exact Nat.lt_trans hlt hn
    · rw [upd_upd, List.range_succ, List.map_append]
      rfl
  · have e : i = n := by omega
    subst e
    exact .inl ⟨w.stops _ (hG _), hd⟩
theorem range_getD {α β : Type} (l : List α) (d : α) (f : α → β) : (List.range l.length).map (fun i => f (l.getD i d)) = l.map f := by
  apply List.ext_getElem
  · simp
  · intro i h1 h2
    simp at h1 h2 ⊢
    simp [List.getElem?_eq_getElem h1]
end R
namespace R
theorem iteB {c : Bool} {A B : Prop} (a : c = true → A) (b : c = false → B) : if c = true then A else B := by
  cases c with
  | true => rw [if_pos rfl]; exact a rfl
  | false => rw [if_neg Bool.false_ne_true]; exact b rfl
theorem nd_t {p : Prop} [Decidable p] (h : (!decide p) = true) : ¬ p := by simpa using h
theorem nd_f {p : Prop} [Decidable p] (h : (!decide p) = false) : p := by simpa using h
end R
namespace R
open PySem PySem.Spec PyProof.Rows L2
/-- a comprehension with tests whose parts change nothing -/
theorem lc_filt {J : It} {n : Nat} {G : Hp → Prop} {Y : Nat → Hp → V → Hp → Prop} (w : Walk J n G Y) (It' : Nat → V → Prop) (hy : ∀ i H x H', Y i H x H' → H' = H ∧ It' i x) (f : Nat → V) (p : Nat → Bool) {g : TG} {tt : TT} {te : TE} {vs : List Nat} {σ : L2.St} {H1 : Hp} {D : Addr} {Qd : Hp → Prop}
    (hn : n < sizeLine) (hG : ∀ o, G (upd H1 D o))
    (hs : ∀ (i : Nat) (x : V) (acc : List V) (C : V → Hp → Prop) (Cn : Hp → Prop), i < n → It' i x → (p i = true → C (f i) (upd H1 D (.lst acc))) → (p i = false → Cn (upd H1 D (.lst acc))) →
      g x (wipe σ vs) (upd H1 D (.lst acc)) fun σ2 H2 => wipe σ2 vs = wipe σ vs ∧ tt σ2 H2 fun b H3 => if b = true then te σ2 H3 C else Cn H3)
    (hd : Qd (upd H1 D (.lst (((List.range n).filter p).map f)))) :
    ∃ W : Nat → Nat → Hp → Prop, (∃ m, W 0 m (upd H1 D (.lst []))) ∧ ∀ i m H, W i m H →
      (J.stop i H ∧ Qd H) ∨ (J.go i H ∧ ∃ Nx : Hp → Prop, (∀ H', Nx H' → ∃ m', m' < m ∧ W (i + 1) m' H') ∧ ∀ x H', J.yld i H x H' → g x (wipe σ vs) H' fun σ2 H2 => wipe σ2 vs = wipe σ vs ∧ tt σ2 H2 fun b H3 =>
        if b = true then te σ2 H3 fun y H4 => ∃ acc, H4 D = some (.lst acc) ∧ acc.length < sizeLine ∧ Nx (upd H4 D (.lst (acc ++ [y]))) else Nx H3) := by
  refine ⟨fun i m H => m = n - i ∧ i ≤ n ∧ H = upd H1 D (.lst (((List.range i).filter p).map f)), ⟨n, by simp, Nat.zero_le _, rfl⟩, ?_⟩
  rintro i m H ⟨rfl, hi, rfl⟩
  by_cases hlt : i < n
  · refine .inr ⟨w.goes i _ hlt (hG _), fun H' => H' = upd H1 D (.lst (((List.range (i + 1)).filter p).map f)), fun H' e => ⟨n - (i + 1), by omega, rfl, hlt, e⟩, fun x H' y => ?_⟩
    obtain ⟨rfl, hx⟩ := hy _ _ _ _ (w.yields i _ x H' hlt (hG _) y)
    refine hs i x _ (fun y H4 => ∃ acc, H4 D = some (.lst acc) ∧ acc.length < sizeLine ∧ upd H4 D (.lst (acc ++ [y])) = upd H1 D (.lst (((List.range (i + 1)).filter p).map f))) _ hlt hx (fun hp => ⟨_, upd_same, ?_, ?_⟩) (fun hp => ?_)
    · rw [List.length_map]
      refine Nat.lt_of_le_of_lt (List.length_filter_le _ _) ?_
      rw [List.length_range]
      exact Nat.lt_trans hlt hn
    · rw [upd_upd, List.range_succ, List.filter_append, List.map_append, List.filter_cons_of_pos hp]
      rfl
    · rw [List.range_succ, List.filter_append, List.filter_cons_of_neg (by rw [hp]; exact Bool.false_ne_true)]
      simp
  · have e : i = n := by omega
    subst e
    exact .inl ⟨w.stops _ (hG _), hd⟩
theorem filt_getD {α β : Type} (l : List α) (d : α) (q : α → Bool) (f : α → β) : ((List.range l.length).filter fun i => q (l.getD i d)).map (fun i => f (l.getD i d)) = (l.filter q).map f := by
  have h : (List.range l.length).map (fun i => l.getD i d) = l := by
    have := range_getD l d id
    simpa using this
  have h2 : ((List.range l.length).filter fun i => q (l.getD i d)).map (fun i => l.getD i d) = l.filter q := by
    conv => rhs; rw [← h]
    rw [List.filter_map]
    rfl
  rw [← h2, List.map_map]
  rfl
theorem joinL_nil : ∀ ps : List (List Nat), TL.joinL [] ps = ps.flatten
  | [] => rfl
  | [p] => by simp [TL.joinL]
  | p :: q :: r => by
    show p ++ ([] ++ TL.joinL [] (q :: r)) = _
    rw [joinL_nil (q :: r)]
    rfl
theorem join_ones (cs : List Nat) : Txt.join (⟨#[]⟩ : Str) (cs.map fun c => (⟨#[c]⟩ : Str)) = ⟨cs.toArray⟩ := by
  have e : ∀ cs : List Nat, (cs.map fun c => [c]).flatten = cs := fun cs => by
    induction cs with
    | nil => rfl
    | cons c r ih =>
      rw [List.map_cons, List.flatten_cons, ih]
      rfl
  have h := SX.join_S [] (cs.map fun c => [c])
  rw [joinL_nil, List.map_map, e] at h
  exact h
theorem dp_strs {K : PySem.W.Frag} {H : Hp} : ∀ zs : List Str, DpAll K H (zs.map V.str) (zs.map PyData.str)
  | [] => .nil
  | z :: zs => .cons (.str z) (dp_strs zs)
theorem dp_ints {K : PySem.W.Frag} {H : Hp} : ∀ zs : List Int, DpAll K H (zs.map V.int) (zs.map PyData.int)
  | [] => .nil
  | z :: zs => .cons (.int z) (dp_ints zs)
end R
namespace R
open PySem PySem.Spec PyProof.Rows L2
theorem Dr.put {a D : Addr} {o u : HO} {H H1 : Hp} (x : Dr a H H1) (hD : H D = none) (e : H1 D = some u) (nu : ∀ x, u ≠ .own x) (f : Flat o) (n : D ≠ a) : Dr a H (upd H1 D o) := by
  obtain ⟨p0, q0, e0, h0⟩ := x.st
  refine ⟨fun b z nb eb => ?_, ⟨p0, q0, ?_, h0⟩, x.wf.at f e nu⟩
  · rw [upd_ne (ne_of_none eb hD)]
    exact x.kp b z nb eb
  · rw [upd_ne n.symm]
    exact e0
end R
namespace R
open PySem PySem.Spec PyProof.Rows L2
abbrev sOk (z : Str) : Prop := PyData.strOk z = true
theorem sOk_iff {z : Str} : sOk z ↔ ∀ c ∈ z.cps.toList, c < 0x110000 := by
  unfold sOk PyData.strOk
  rw [← Array.all_toList, List.all_eq_true]
  simp
theorem sOk_app {x y : Str} (h : sOk x) (g : sOk y) : sOk (x ++ y) := by
  rw [sOk_iff] at h g ⊢
  intro c hc
  have e := TL.tl_append x y
  have hc' : c ∈ TL.tl (x ++ y) := hc
  rw [e, List.mem_append] at hc'
  rcases hc' with q | q
  · exact h c q
  · exact g c q
theorem sOk_cut {z : Str} {lo hi : Option Int} (h : sOk z) : sOk (cutS z lo hi) := by
  rw [sOk_iff] at h ⊢
  intro c hc
  refine h c ?_
  have hc' : c ∈ (z.cps.toList.drop (HT.sIx z.length 0 lo)).take (HT.sIx z.length z.length hi - HT.sIx z.length 0 lo) := hc
  exact List.mem_of_mem_drop (List.mem_of_mem_take hc')
theorem sOk_list {cs : List Nat} (h : ∀ c ∈ cs, c < 0x110000) : sOk ⟨cs.toArray⟩ := sOk_iff.mpr (by simpa using h)
theorem sOk_one {c : Nat} (h : c < 0x110000) : sOk ⟨#[c]⟩ := sOk_list (cs := [c]) (by simpa using h)
theorem shape_strs {zs : List Str} (h : ∀ z ∈ zs, sOk z) : SeqAt.shaped (.list (zs.map .str)) = true := by
  have h1 : PyData.canLayAll0 (zs.map .str) = true := by
    induction zs with
    | nil => rfl
    | cons z r ih =>
      show (PyData.canLay0 (.str z) && PyData.canLayAll0 (r.map .str)) = true
      rw [ih fun y hy => h y (List.mem_cons_of_mem _ hy), Bool.and_true]
      exact h z List.mem_cons_self
  have h2 : PyData.depthAll (zs.map .str) = 0 := by
    clear h h1
    induction zs with
    | nil => rfl
    | cons z r ih =>
      show max 0 (PyData.depthAll (r.map .str)) = 0
      rw [ih]
      rfl
  unfold SeqAt.shaped
  show (PyData.canLayAll0 (zs.map .str) && decide (PyData.depthAll (zs.map .str) + 1 ≤ 64)) = true
  rw [h1, h2]
  rfl
/-- what behind a statement is wanted, told first -/
def sCut (t : TS) : TS := fun D σ H => ∃ P : L2.St → Hp → Prop, t { D with nx := P } σ H ∧ ∀ σ' H', P σ' H' → D.nx σ' H'
theorem ps_cut {X : Cx} {b : Stmt} {t : TS} (h : PS X b t) : PS X b (sCut t) := ⟨fun pins s σ H D I q => by
  obtain ⟨P, q1, q2⟩ := q
  refine thn (h.run pins s σ H _ I q1) fun f s1 z => ?_
  cases f with
  | next =>
    obtain ⟨σ', H', I', q⟩ := z
    exact ⟨σ', H', I', q2 _ _ q⟩
  | brk => exact z
  | cont => exact z
  | ret u => exact z⟩
/-- the same of a value -/
def eCut (t : TE) : TE := fun σ H Q => ∃ P : VK, t σ H P ∧ ∀ v H', P v H' → Q v H'
theorem pe_cut {X : Cx} {e : Expr} {t : TE} (h : PE X e t) : PE X e (eCut t) := ⟨fun pins s σ H Q I q => by
  obtain ⟨P, q1, q2⟩ := q
  exact thn (h.run pins s σ H _ I q1) fun u s1 ⟨v, H', I', r, q⟩ => ⟨v, H', I', r, q2 _ _ q⟩⟩
theorem wf_only {H : Hp} (h : Only H) : Wf H := fun a o e => by
  rcases h a with q | ⟨ob, xs, q⟩
  · rw [q] at e
    cases e
  · rw [q] at e
    cases e
    exact .inl trivial
theorem lt_one {c d : Nat} : (([c] : List Nat) < [d]) ↔ c < d := by
  rw [List.cons_lt_cons_iff]
  constructor
  · rintro (h | ⟨_, h⟩)
    · exact h
    · exact absurd h (List.lt_irrefl _)
  · exact .inl
end R
namespace R
theorem st_ne {H : L2.Hp} {a l : PySem.Addr} (s : St2 H a) (n : H l = none) : l ≠ a := fun e => by
  obtain ⟨_, _, e1, _⟩ := s
  rw [← e, n] at e1
  cases e1
theorem bE.same {H H' : L2.Hp} {E : L2.XK} {c : PySem.Value} {d : Option PySem.Addr} (w : Wf H) (s : L2.Same H H') (q : E c d H) : bE H E c d H' := ⟨H, ⟨s, fun a o e => by rw [e, s a o e], w⟩, q⟩
theorem bE.mk {H H' : L2.Hp} {E : L2.XK} {c : PySem.Value} {d : Option PySem.Addr} (w : Wf H') (q : E c d H') : bE H E c d H' := ⟨H', Back.refl w, q⟩
end R
namespace R
open PySem PySem.Spec PyProof.Rows L2
/-! ### what is known of a value's type; data -/
/-- its type is one of the plain ones -/
def Kn (K : PySem.W.Frag) (H : Hp) (v : V) : Prop := match v with
  | .non => True
  | .bl _ => True
  | .int _ => True
  | .str _ => True
  | .ref p => TyX K H (.ref p) (.type "list") ∨ TyX K H (.ref p) (.type "tuple") ∨ TyX K H (.ref p) (.type "dict")
  | _ => False
section
variable {K : PySem.W.Frag} {H H' : Hp}
theorem ty_l {p : Addr} {xs : List V} (h : SqL K H p xs) : TyX K H (.ref p) (.type "list") := by
  rcases h with (h | ⟨o, h⟩) | ⟨o, _, _, h, c, _⟩
  · exact .base (.lst h)
  · exact .base (.frz h)
  · exact .kList h c
theorem ty_t {p : Addr} {xs : List V} (h : SqT K H p xs) : TyX K H (.ref p) (.type "tuple") := by
  rcases h with (h | ⟨o, h⟩) | ⟨o, _, _, h, c, _⟩
  · exact .base (.tup h)
  · exact .fTuple h
  · exact .kTuple h c
theorem Known.kn : ∀ {v : V}, Known K H v → Kn K H v
  | .non, h => h
  | .bl _, h => h
  | .int _, h => h
  | .str _, h => h
  | .ref _, .inl ⟨_, h⟩ => .inl (.base (.lst h))
  | .ref _, .inr (.inl ⟨_, h⟩) => .inr (.inl (.base (.tup h)))
  | .ref _, .inr (.inr ⟨_, h⟩) => .inr (.inr (.base (.dK h)))
  | .byt _, h => h.elim
  | .flt _, h => h.elim
  | .ty _, h => h.elim
theorem kn_dp {v : V} {d : PyData} (h : Dp K H v d) : Kn K H v := by
  cases h with
  | non => trivial
  | bl _ => trivial
  | int _ => trivial
  | str _ => trivial
  | lst h _ => exact .inl (ty_l h)
  | tup h _ => exact .inr (.inl (ty_t h))
theorem isk_str : ∀ {v : V}, Kn K H v → IsiV K H v "str" (isStr v)
  | .non, _ => isi_ty (b := false) (.base .non) (by decide +kernel)
  | .bl _, _ => isi_ty (b := false) (.base (.bl _)) (by decide +kernel)
  | .int _, _ => isi_ty (b := false) (.base (.int _)) (by decide +kernel)
  | .str _, _ => isi_ty (b := true) (.base (.str _)) (by decide +kernel)
  | .ref _, .inl h => isi_ty (b := false) h (by decide +kernel)
  | .ref _, .inr (.inl h) => isi_ty (b := false) h (by decide +kernel)
  | .ref _, .inr (.inr h) => isi_ty (b := false) h (by decide +kernel)
theorem isk_int : ∀ {v : V}, Kn K H v → IsiV K H v "int" (isInt v)
  | .non, _ => isi_ty (b := false) (.base .non) (by decide +kernel)
  | .bl _, _ => isi_ty (b := true) (.base (.bl _)) (by decide +kernel)
  | .int _, _ => isi_ty (b := true) (.base (.int _)) (by decide +kernel)
  | .str _, _ => isi_ty (b := false) (.base (.str _)) (by decide +kernel)
  | .ref _, .inl h => isi_ty (b := false) h (by decide +kernel)
  | .ref _, .inr (.inl h) => isi_ty (b := false) h (by decide +kernel)
  | .ref _, .inr (.inr h) => isi_ty (b := false) h (by decide +kernel)
theorem isk_bool : ∀ {v : V}, Kn K H v → IsiV K H v "bool" (isBl v)
  | .non, _ => isi_ty (b := false) (.base .non) (by decide +kernel)
  | .bl _, _ => isi_ty (b := true) (.base (.bl _)) (by decide +kernel)
  | .int _, _ => isi_ty (b := false) (.base (.int _)) (by decide +kernel)
  | .str _, _ => isi_ty (b := false) (.base (.str _)) (by decide +kernel)
  | .ref _, .inl h => isi_ty (b := false) h (by decide +kernel)
  | .ref _, .inr (.inl h) => isi_ty (b := false) h (by decide +kernel)
  | .ref _, .inr (.inr h) => isi_ty (b := false) h (by decide +kernel)
def isTupD : PyData → Bool | .tuple _ => true | _ => false
theorem isk_tup {v : V} {d : PyData} (h : Dp K H v d) : IsiV K H v "tuple" (isTupD d) := by
  cases h with
  | non => exact isi_ty (b := false) (.base .non) (by decide +kernel)
  | bl _ => exact isi_ty (b := false) (.base (.bl _)) (by decide +kernel)
  | int _ => exact isi_ty (b := false) (.base (.int _)) (by decide +kernel)
  | str _ => exact isi_ty (b := false) (.base (.str _)) (by decide +kernel)
  | lst h _ => exact isi_ty (b := false) (ty_l h) (by decide +kernel)
  | tup h _ => exact isi_ty (b := true) (ty_t h) (by decide +kernel)
def isLstD : PyData → Bool | .list _ => true | _ => false
theorem isk_lst {v : V} {d : PyData} (h : Dp K H v d) : IsiV K H v "list" (isLstD d) := by
  cases h with
  | non => exact isi_ty (b := false) (.base .non) (by decide +kernel)
  | bl _ => exact isi_ty (b := false) (.base (.bl _)) (by decide +kernel)
  | int _ => exact isi_ty (b := false) (.base (.int _)) (by decide +kernel)
  | str _ => exact isi_ty (b := false) (.base (.str _)) (by decide +kernel)
  | lst h _ => exact isi_ty (b := true) (ty_l h) (by decide +kernel)
  | tup h _ => exact isi_ty (b := false) (ty_t h) (by decide +kernel)
/-- what data lean on: every address's object that is read -/
theorem sqt_keep {p : Addr} {xs : List V} (k : ∀ o, H p = some o → H' p = some o) (h : SqT K H p xs) : SqT K H' p xs := by
  rcases h with (h | ⟨o, h⟩) | h
  · exact .inl (.inl (k _ h))
  · exact .inl (.inr ⟨o, k _ h⟩)
  · exact .inr h
theorem sql_keep {p : Addr} {xs : List V} (k : ∀ o, H p = some o → H' p = some o) (h : SqL K H p xs) : SqL K H' p xs := by
  rcases h with (h | ⟨o, h⟩) | h
  · exact .inl (.inl (k _ h))
  · exact .inl (.inr ⟨o, k _ h⟩)
  · exact .inr h
mutual
theorem dp_keep (k : ∀ p o, H p = some o → H' p = some o) : ∀ {v : V} {d : PyData}, Dp K H v d → Dp K H' v d
  | _, _, .non => .non
  | _, _, .bl b => .bl b
  | _, _, .int i => .int i
  | _, _, .str z => .str z
  | _, _, .lst h a => .lst (sql_keep (k _) h) (dpa_keep k a)
  | _, _, .tup h a => .tup (sqt_keep (k _) h) (dpa_keep k a)
theorem dpa_keep (k : ∀ p o, H p = some o → H' p = some o) : ∀ {vs : List V} {ds : List PyData}, DpAll K H vs ds → DpAll K H' vs ds
  | _, _, .nil => .nil
  | _, _, .cons h a => .cons (dp_keep k h) (dpa_keep k a)
end
theorem dpa_len : ∀ {vs : List V} {ds : List PyData}, DpAll K H vs ds → vs.length = ds.length
  | _, _, .nil => rfl
  | _, _, .cons _ a => congrArg (· + 1) (dpa_len a)
theorem dpa_at : ∀ {vs : List V} {ds : List PyData}, DpAll K H vs ds → ∀ {i : Nat} {v : V}, vs[i]? = some v → ∃ d, ds[i]? = some d ∧ Dp K H v d
  | _, _, .nil, i, v, e => by simp at e
  | _, _, .cons h _, 0, v, e => by cases Option.some.inj e; exact ⟨_, rfl, h⟩
  | _, _, .cons _ a, i + 1, v, e => dpa_at a (i := i) (by simpa using e)
/-- data that do not lean on what stands at a -/
def hid (a : Addr) (H : Hp) : Hp := fun b => if b = a then none else H b
abbrev Da (K : PySem.W.Frag) (a : Addr) (H : Hp) (v : V) (d : PyData) : Prop := Dp K (hid a H) v d
theorem Da.dp {a : Addr} {v : V} {d : PyData} (h : Da K a H v d) : Dp K H v d := dp_keep (fun p o e => by
  unfold hid at e
  split at e
  · cases e
  · exact e) h
theorem Da.dr {a : Addr} {v : V} {d : PyData} (h : Da K a H v d) (x : Dr a H H') : Da K a H' v d := dp_keep (fun p o e => by
  unfold hid at e ⊢
  split at e
  · cases e
  · rename_i n
    rw [if_neg n]
    exact x.kp p o n e) h
theorem dp_ne {a : Addr} {v : V} {d : PyData} (n : H a = none) (h : Dp K H v d) : Da K a H v d := dp_keep (fun p o e => by
  unfold hid
  rw [if_neg (ne_of_none e n)]
  exact e) h
/-- equality of data -/
theorem eq_d {v u : V} {d e : PyData} {Q : VK} (h : Dp K H v d) (g : Dp K H u e) (s1 : SeqAt.shaped d = true) (s2 : SeqAt.shaped e = true) (hs : scal v u = false) (q : Q (.bl (PyData.eqv d e)) H) : rEqU K v u H Q := by
  unfold rEqU
  rw [hs]
  exact ⟨d, e, h, g, s1, s2, q⟩
end
/-! ### own exceptions over ValueError, without an own __init__ -/
abbrev veB : List Value := [.type "ValueError", .type "Exception", .type "BaseException", .type "object"]
/-- what the class at C, named x, must say -/
structure Exc (K : PySem.W.Frag) (mg : Str → Option Value) (x : Str) (C : Addr) : Prop where
  g : mg x = some (.ref C)
  x : PySem.W.excIn K C veB "ValueError.__new__" = true
  k : PySem.W.keepIn K (.ref C) = true
  b : PySem.W.subIn K (.ref C) (.type "BaseException") = some true
  t : PySem.W.typeIn K (.ref C) = some (.type "type")
  d : PySem.W.hasDictIn K C = true
  v : PySem.W.subIn K (.ref C) (.type "ValueError") = some true
  cc : ExcC K C
theorem pmk_exc {X : Cx} {x m : Str} {C : Addr} {j : Nat} {p p2 pos : Pos} (e : Exc X.K X.mg x C) (hg : Gl X x := by rfl) (hdb : (x == ("__debug__" : Str)) = false := by decide) :
    PMk X (.Call (.Name x p) [.Constant (.str m) j p2] [] pos) (fun _ H Q => Q (.ref C) none H) :=
  pmk_own PySem.F.excBase_ValueError e.x e.g e.k (raises_own e.b e.t) hg hdb
theorem ps_rai {X : Cx} {x m : Str} {C : Addr} {j : Nat} {p p2 pos pos2 : Pos} {W : WX} (e : Exc X.K X.mg x C) (tk : Takes X W) (hc : X.calm = true := by rfl) (hg : Gl X x := by rfl) (hdb : (x == ("__debug__" : Str)) = false := by decide) :
    PS X (.Raise (some (.Call (.Name x p) [.Constant (.str m) j p2] [] pos)) none pos2) (fun _ σ H => W (.ref C) none σ H) := ps_raise hc tk (pmk_exc e hg hdb)
/-- C is under D, or not -/
theorem exc_under {K : PySem.W.Frag} {mg : Str → Option Value} {x y : Str} {C D : Addr} {b : Bool} (e : Exc K mg x C) (f : Exc K mg y D) (h : PySem.W.subIn K (.ref C) (.ref D) = some b) : PySem.W.exmOne K (.ref C) (.ref D) = some b := PySem.W.exm_ref f.b f.d f.t h
theorem exc_kit {K : PySem.W.Frag} {mg : Str → Option Value} {x y : Str} {C D : Addr} {b : Bool} (f : Exc K mg y D) (hne : C = D → b = true) (h : PySem.W.subIn K (.ref C) (.ref D) = some b) : PySem.W.kitOne K (.ref C) (.ref D) = some b := by
  unfold PySem.W.kitOne
  by_cases e : C = D
  · subst e
    rw [hne rfl]
    simp
  · have n : ((Value.ref C) == Value.ref D) = false := by
      simp only [beq_eq_false_iff_ne, ne_eq, Value.ref.injEq]
      exact e
    rw [n]
    have z := PySem.W.exm_ref f.b f.d f.t h
    unfold PySem.W.exmOne at z
    rw [f.b] at z
    simpa using z
/-- isinstance(e, c) in a suite -/
def rIsX (K : PySem.W.Frag) (cls : Value) (d : Option Addr) (a : Addr) : List V → Hp → VK → Prop := fun xs H Q => ∃ D, cls = .ref D ∧ d = none ∧ ExcC K D ∧ rIsE K D a xs H Q
theorem callU_isX {X : Cx} {K : PySem.W.Frag} {a : Addr} {cls : Value} {d : Option Addr} {oe : Obj} {pn : List (Addr × Obj)} (hz : Zc cls d oe) (hf : ∃ vs, oe.data = .fields vs) (hK : X.K = K := by rfl) : CallR (X.suite a ((a, oe) :: pn)) (.builtin "isinstance") (rIsX K cls d a) := by
  subst hK
  intro pins s σ H xs us Q I r h
  obtain ⟨D, rfl, rfl, c, h⟩ := h
  exact call_isE c hz hf pins s σ H xs us Q I r h
/-- try .. except x as n -/
theorem ps_tryA {X : Cx} {K : PySem.W.Frag} {x n : Str} {C : Addr} {i : Nat} {body suite : List Stmt} {b₀ : Stmt} {np pos pos' : Pos} {tb : WX → TS} {ts : Addr → Value → Option Addr → TS} {Wout : WX} (e : Exc X.K X.mg x C) (hN : X.N.Nodup) (hi : X.N[i]? = some n) (tk : Takes X Wout)
    (hb : ∀ (W : WX) (pn : List (Addr × Obj)) (xe : Value → Shared → Prop), Takes (X.tr pn xe) W → PassesOwn (model X.prog X.w) X.A X.env xe → PSs (X.tr pn xe) body (tb W))
    (hsu : ∀ (a : Addr) (oe : Obj) (cls : Value) (d : Option Addr) (pn : List (Addr × Obj)), Zc cls d oe → (∃ vs, oe.data = .fields vs) → PSs (X.suite a ((a, oe) :: pn)) (b₀ :: suite) (ts a cls d))
    (hs : X.stack = X.env :: X.outer := by rfl) (hf : X.env.frame = some X.env.locals := by rfl) (hln : X.env.kindOf n = some .local := by rfl) (hg : Gl X x := by rfl) (hdb : (x == ("__debug__" : Str)) = false := by decide) (hK : X.K = K := by rfl) :
    PS X (.Try body [.ExceptHandler (some (.Name x np)) (some n) (b₀ :: suite) pos'] [] [] pos) (fun D σ H => tb (wAs K (.ref C) i ts Wout D) D σ H) := by
  subst hK
  exact ps_try_as hs hf hN hi hln ⟨hg, hdb, .inl e.g⟩ tk hb hsu
/-- try .. except x -/
theorem ps_tryO {X : Cx} {K : PySem.W.Frag} {x : Str} {C : Addr} {body suite : List Stmt} {b₀ : Stmt} {np pos pos' : Pos} {tb : WX → TS} {ts : Addr → Value → Option Addr → TS} {Wout : WX} (e : Exc X.K X.mg x C) (tk : Takes X Wout)
    (hb : ∀ (W : WX) (pn : List (Addr × Obj)) (xe : Value → Shared → Prop), Takes (X.tr pn xe) W → PassesOwn (model X.prog X.w) X.A X.env xe → PSs (X.tr pn xe) body (tb W))
    (hsu : ∀ (a : Addr) (oe : Obj) (cls : Value) (d : Option Addr) (pn : List (Addr × Obj)), Zc cls d oe → (∃ vs, oe.data = .fields vs) → PSs (X.suite a ((a, oe) :: pn)) (b₀ :: suite) (ts a cls d))
    (hs : X.stack = X.env :: X.outer := by rfl) (hf : X.env.frame = some X.env.locals := by rfl) (hg : Gl X x := by rfl) (hdb : (x == ("__debug__" : Str)) = false := by decide) (hK : X.K = K := by rfl) :
    PS X (.Try body [.ExceptHandler (some (.Name x np)) none (b₀ :: suite) pos'] [] [] pos) (fun D σ H => tb (wOnly K (.ref C) ts Wout D) D σ H) := by
  subst hK
  exact ps_try_only hs hf ⟨hg, hdb, .inl e.g⟩ tk hb hsu
/-- a call that may raise: what is wished at the caller's slots -/
def cCallE (sp : Sp) (W : WX) (t : TA) : TE := fun σ H Q => t σ H fun vs H1 => sp vs H1 Q fun c d H' => W c d σ H'
end R
namespace R
open PySem PySem.Spec PyProof.Rows L2
section
variable {X : Cx} {k j : Nat} {x m : Str} {ps : List Str} {sp : Sp} {W : WX} {p pos apos : Pos} {e o : Expr} {es : List Expr} {ta : TE} {t : TA} {C : Addr}
theorem mono_a {es : List Expr} {t : TA} (ha : PA X es t) : PA X es (fun σ H Q => ∃ Q0 : List V → Hp → Prop, (∀ v H', Q0 v H' → Q v H') ∧ t σ H Q0) := ⟨fun pos pins s σ H Q I q => by
  obtain ⟨Q0, w, z⟩ := q
  exact thn (ha.run pos pins s σ H Q0 I z) fun u s1 ⟨v, H1, I1, r, q1⟩ => ⟨v, H1, I1, r, w v H1 q1⟩⟩
/-- f(..), f may raise -/
theorem pe_fS (O : Ok X.prog X.w X.K X.mg X.base k x ps sp) (hr : Room k X.A) (tk : Takes X W) (ha : PA X (e :: es) t) (hg : Gl X x := by rfl)
    (hdb : (x == ("__debug__" : Str)) = false := by decide) (he : starEach (e :: es) X.env = (false, eval e X.env) :: starEach es X.env := by rfl) (hpl : (backTo pos (starEach es X.env)).any (·.1) = false := by rfl) :
    PE X (.Call (.Name x p) (e :: es) [] pos) (cCallE sp W t) := by
  obtain ⟨f, fd, h1, h2, h3, F⟩ := O.ex
  exact pe_callS F hr hg h1 h2 h3 (fun σ => passAt tk σ) ha hdb he hpl
/-- a class's def: at C found by the name m -/
structure MtAt (K : PySem.W.Frag) (C : Addr) (m qual : Str) (st : Stmt) (ps : List Str) : Prop where
  ex : ∃ f fd, Meth K C m f ∧ Fun K m qual st f fd ∧ Binds K fd ps []
structure OkM (P : Program) (w : World) (K : PySem.W.Frag) (mg : Str → Option Value) (base : Heap) (k : Nat) (C : Addr) (m : Str) (ps : List Str) (sp : Sp) : Prop where
  ex : ∃ f fd, Meth K C m f ∧ Binds K fd ps [] ∧ FnOk P w K mg base (L2.CX P w) k f fd ps sp
theorem okM {P : Program} {w : World} {K : PySem.W.Frag} {mg : Str → Option Value} {base : Heap} {m qual : Str} {st : Stmt} {N ps : List Str} {k : Nat} {sp : Sp} {C : Addr} (F : MtAt K C m qual st ps) (S : FnScope N ps (defScope st)) (len : ∀ vs H Q E, sp vs H Q E → vs.length = ps.length)
    (hbody : ∀ (f : Addr) (cdv : Value) (A : Around) (outer : List Env) (s : Shared) (H : Hp) (vs : List V) (Q : VK) (E : XK), Room k (A.deeper (envOfC qual (defScope st) s.heap.objs.size f cdv)) → sp vs H Q E →
      ∃ t, PSs (cxOf (L2.CX P w) P w K mg base N qual (defScope st) f cdv A outer s H (bE H E)) (defBody st) t ∧ t { nx := fun _ H' => bQ H Q .non H', rt := bQ H Q } (start N vs) H) : OkM P w K mg base (k + 1) C m ps sp := by
  obtain ⟨f, fd, h1, h2, h3⟩ := F.ex
  exact ⟨f, fd, h1, h3, okX h2 S len (hbody f)⟩
def cMeth (CS : Addr → Prop) (m : Str) (sp : Addr → Sp) (W : WX) (ta : TE) (t : TA) : TE := fun σ H Q => ta σ H fun x H1 => ∃ a C dx fs, x = .ref a ∧ H1 a = some (.ins C dx fs) ∧ CS C ∧ fs.lookup m = none ∧
  t σ H1 fun vs H2 => sp C (x :: vs) H2 Q fun c d H' => W c d σ H'
/-- o.m(..), of an instance of one of the classes CS -/
theorem pe_mS {CS : Addr → Prop} {sp : Addr → Sp} {pl : Sem Bool} (he : PE X o ta) (c : ∀ C, CS C → Cls X.K C) (O : ∀ C, CS C → OkM X.prog X.w X.K X.mg X.base k C m ps (sp C)) (hr : Room k X.A) (tk : Takes X W) (ha : PA X (e :: es) t)
    (hst : starEach (e :: es) X.env = (false, eval e X.env) :: starEach es X.env := by rfl) (hpl : (backTo pos (starEach es X.env)).any (·.1) = false := by rfl)
    (ht : eval (.Call (.Attribute o m apos) (e :: es) [] pos) X.env = (do
      let ov ← eval o X.env
      standAt apos.atName
      let (f, first) ← holding [ov] (getMethod ov m pl)
      callWith pos f first (backTo pos (starEach (e :: es) X.env)) (backToKw pos (keywordEach [] X.env))) := by rfl) :
    PE X (.Call (.Attribute o m apos) (e :: es) [] pos) (cMeth CS m sp W ta t) := by
  refine ⟨fun pins s σ H Q I h => ?_⟩
  refine PySem.W.methodCall_KW (pl := pl) (thn (he.run pins s σ H _ I h) fun u s1 ⟨x, H1, I1, rx, a, C, dx, fs, ex, ea, cs, l, q⟩ => ?_) ht
  subst ex
  obtain rfl : u = Value.ref a := rx
  obtain ⟨f, fd, hm, hb, F⟩ := (O C cs).ex
  refine getmeth_ok I1 ea (c C cs) hm l ?_
  refine PySem.W.callWith_K (first := [.ref a]) (h₀ := X.base) I.ok.mod.kin hm.kp (thn (ha.run pos pins s1 σ H1 _ I1 q) fun us s2 ⟨vs, H2, I2, r, q2⟩ => ⟨I2.kIn, ?_⟩) hst hpl
  exact run_fnS (us := .ref a :: us) (vs := .ref a :: vs) F hr hb (passAt tk σ) I2 (.cons rfl r) q2
theorem pe_mS0 {CS : Addr → Prop} {sp : Addr → Sp} {pl : Sem Bool} (he : PE X o ta) (c : ∀ C, CS C → Cls X.K C) (O : ∀ C, CS C → OkM X.prog X.w X.K X.mg X.base k C m ps (sp C)) (hr : Room k X.A) (tk : Takes X W)
    (ht : eval (.Call (.Attribute o m apos) [] [] pos) X.env = (do
      let ov ← eval o X.env
      standAt apos.atName
      let (f, first) ← holding [ov] (getMethod ov m pl)
      callWith pos f first (backTo pos (starEach [] X.env)) (backToKw pos (keywordEach [] X.env))) := by rfl) :
    PE X (.Call (.Attribute o m apos) [] [] pos) (cMeth CS m sp W ta tNil) := by
  refine ⟨fun pins s σ H Q I h => ?_⟩
  refine PySem.W.methodCall_KW (pl := pl) (thn (he.run pins s σ H _ I h) fun u s1 ⟨x, H1, I1, rx, a, C, dx, fs, ex, ea, cs, l, q⟩ => ?_) ht
  subst ex
  obtain rfl : u = Value.ref a := rx
  obtain ⟨f, fd, hm, hb, F⟩ := (O C cs).ex
  refine getmeth_ok I1 ea (c C cs) hm l ?_
  exact PySem.W.callWith_K0 (first := [.ref a]) I1.kIn hm.kp (run_fnS (us := [.ref a]) (vs := [.ref a]) F hr hb (passAt tk σ) I1 (.cons rfl .nil) q)
/-- a class that makes instances -/
structure MkAt (K : PySem.W.Frag) (mg : Str → Option Value) (x : Str) (C : Addr) (qual : Str) (st : Stmt) (ps : List Str) : Prop where
  ex : mg x = some (.ref C) ∧ ∃ f fd, Mk K C f ∧ Fun K "__init__" qual st f fd ∧ Binds K fd ps []
structure OkI (P : Program) (w : World) (K : PySem.W.Frag) (mg : Str → Option Value) (base : Heap) (k : Nat) (x : Str) (C : Addr) (ps : List Str) (sp : Sp) : Prop where
  ex : mg x = some (.ref C) ∧ ∃ f fd, Mk K C f ∧ Binds K fd ps [] ∧ FnOk P w K mg base (L2.CX P w) k f fd ps sp
theorem okI {P : Program} {w : World} {K : PySem.W.Frag} {mg : Str → Option Value} {base : Heap} {x qual : Str} {st : Stmt} {N ps : List Str} {k : Nat} {sp : Sp} {C : Addr} (F : MkAt K mg x C qual st ps) (S : FnScope N ps (defScope st)) (len : ∀ vs H Q E, sp vs H Q E → vs.length = ps.length)
    (hbody : ∀ (f : Addr) (cdv : Value) (A : Around) (outer : List Env) (s : Shared) (H : Hp) (vs : List V) (Q : VK) (E : XK), Room k (A.deeper (envOfC qual (defScope st) s.heap.objs.size f cdv)) → sp vs H Q E →
      ∃ t, PSs (cxOf (L2.CX P w) P w K mg base N qual (defScope st) f cdv A outer s H (bE H E)) (defBody st) t ∧ t { nx := fun _ H' => bQ H Q .non H', rt := bQ H Q } (start N vs) H) : OkI P w K mg base (k + 1) x C ps sp := by
  obtain ⟨g, f, fd, h1, h2, h3⟩ := F.ex
  exact ⟨g, f, fd, h1, h3, okX h2 S len (hbody f)⟩
/-- C(..) -/
def cMake (C : Addr) (sp : Sp) (W : WX) (t : TA) : TE := fun σ H Q => t σ H fun vs H1 => ∀ x dx, H1 x = none → H1 dx = none → dx ≠ x →
  sp (.ref x :: vs) (upd (upd H1 dx (.own x)) x (.ins C dx [])) (fun v H2 => v = .non ∧ Q (.ref x) H2) fun c d H' => W c d σ H'
theorem run_makeS {pins : List (Addr × Obj)} {σ : L2.St} {H : Hp} {s : Shared} {Q : VK} {us : List Value} {vs : List V} {f : Addr} {fd : FuncData} (M : Mk X.K C f) (F : FnOk X.prog X.w X.K X.mg X.base (L2.CX X.prog X.w) k f fd ps sp) (hr : Room (k + 1) X.A) (hb : Binds X.K fd ps []) (tk : Takes X W)
    (I : Inv X pins σ H s) (r : Vals vs us)
    (h : ∀ x dx, H x = none → H dx = none → dx ≠ x → sp (.ref x :: vs) (upd (upd H dx (.own x)) x (.ins C dx [])) (fun v H2 => v = .non ∧ Q (.ref x) H2) fun c d H' => W c d σ H') :
    wpAny (model X.prog X.w) X.A (call (.ref C) us) (EP X pins σ Q) X.xe s := by
  have hq := h (s.heap.objs.size + 1) s.heap.objs.size (I.hok.fresh (Nat.le_succ _)) (I.hok.fresh (Nat.le_refl _)) (Nat.ne_of_lt (Nat.lt_succ_self _))
  have I2 := Inv.made (C := C) I
  have r2 : Vals (V.ref (s.heap.objs.size + 1) :: vs) (Value.ref (s.heap.objs.size + 1) :: us) := .cons rfl r
  have hl : (Value.ref (s.heap.objs.size + 1) :: us).length = ps.length := by
    have e := r2.length
    rw [F.len _ _ _ _ hq] at e
    exact e.symm
  have b := hb _ (Value.ref (s.heap.objs.size + 1) :: us) I2.kIn (by rw [List.append_nil]; exact hl)
  rw [List.append_nil] at b
  refine wpAny_call (make_map (f := f) I.kIn M.makes M.init (beq_iff_eq.mp M.fn) (codeAny_mono (F.run _ X.stack _ _ ⟨Value.ref (s.heap.objs.size + 1) :: us, []⟩ (Value.ref (s.heap.objs.size + 1) :: us) _ _ _ (hr.make C us [])
    (I2.env0.make C us []) b r2 hq) fun r s' hq' => ?_))
  cases r with
  | error e => exact passAt tk σ pins _ _ e s' I2 hq'
  | ok fl =>
    cases fl with
    | ret u =>
      obtain ⟨v, H', I3, rv, ev, q3⟩ := I2.after hq'
      subst ev
      exact ⟨rv, ⟨V.ref (s.heap.objs.size + 1), H', I3, rfl, q3⟩⟩
    | next => exact False.elim hq'
    | brk => exact False.elim hq'
    | cont => exact False.elim hq'
theorem pe_mkS (O : OkI X.prog X.w X.K X.mg X.base k x C ps sp) (hr : Room (k + 1) X.A) (tk : Takes X W) (ha : PA X (e :: es) t) (hg : Gl X x := by rfl)
    (hdb : (x == ("__debug__" : Str)) = false := by decide) (he : starEach (e :: es) X.env = (false, eval e X.env) :: starEach es X.env := by rfl) (hpl : (backTo pos (starEach es X.env)).any (·.1) = false := by rfl) :
    PE X (.Call (.Name x p) (e :: es) [] pos) (cMake C sp W t) := by
  obtain ⟨g, f, fd, M, hb, F⟩ := O.ex
  refine ⟨fun pins s σ H Q I h => ?_⟩
  refine wpAny_Call_Name_kw (ld_glob I hg g ?_ hdb)
  refine PySem.W.callWith_K (h₀ := X.base) I.ok.mod.kin M.kp (thn (ha.run pos pins s σ H _ I h) fun us s1 ⟨vs, H1, I1, r, q⟩ => ⟨I1.kIn, ?_⟩) he hpl
  exact run_makeS M F hr hb tk I1 r q
theorem pe_mkS0 (O : OkI X.prog X.w X.K X.mg X.base k x C ps sp) (hr : Room (k + 1) X.A) (tk : Takes X W) (hg : Gl X x := by rfl)
    (hdb : (x == ("__debug__" : Str)) = false := by decide) : PE X (.Call (.Name x p) [] [] pos) (cMake C sp W tNil) := by
  obtain ⟨g, f, fd, M, hb, F⟩ := O.ex
  refine ⟨fun pins s σ H Q I h => ?_⟩
  refine wpAny_Call_Name_kw (ld_glob I hg g ?_ hdb)
  exact PySem.W.callWith_K0 I.kIn M.kp (run_makeS (us := []) M F hr hb tk I .nil h)
/-- what isinstance asks of an own class's instance -/
structure OwnC (K : PySem.W.Frag) (mg : Str → Option Value) (x : Str) (C : Addr) : Prop where
  g : mg x = some (.ref C)
  cl : Cls K C
  ha : PySem.W.findIn K (.ref C) "__class__" = some (some (.builtin "object.__class__"))
  hn : PySem.W.specialIn K (.builtin "object.__class__") "__get__" = some (some (.builtin "getset_descriptor.__get__"))
  ht : PySem.W.takesIn K (.builtin "object.__class__") = some true
  hm : PySem.W.mroIn K C (.type "object") = some true
theorem OwnC.ty {K : PySem.W.Frag} {mg : Str → Option Value} {x : Str} {C a dx : Addr} {H : Hp} {fs : List (Str × V)} (o : OwnC K mg x C) (h : H a = some (.ins C dx fs)) : TyX K H (.ref a) (.ref C) := .base (.ins h o.cl o.ha o.hn o.ht o.hm)
theorem Wf.ins {H : Hp} {a C dx : Addr} {fs gs : List (Str × V)} (w : Wf H) (h : H a = some (.ins C dx fs)) : Wf (upd H a (.ins C dx gs)) := fun b u e => by
  have hd : H dx = some (.own a) := by
    rcases w a _ h with f | ⟨C', dx', fs', e', hd⟩
    · exact f.elim
    · cases e'
      exact hd
  have nda : dx ≠ a := ne_of hd h (fun z => by cases z)
  by_cases hb : b = a
  · subst hb
    rw [upd_same] at e
    cases e
    exact .inr ⟨C, dx, gs, rfl, by rw [upd_ne nda]; exact hd⟩
  · rw [upd_ne hb] at e
    rcases w b u e with f | ⟨C', dx', fs', rfl, hd'⟩
    · exact .inl f
    · refine .inr ⟨C', dx', fs', rfl, ?_⟩
      have n : dx' ≠ a := ne_of hd' h (fun z => by cases z)
      rw [upd_ne n]
      exact hd'
/-- a new instance stands -/
theorem Wf.made {H : Hp} {x dx C : Addr} {fs : List (Str × V)} (w : Wf H) (nx : H x = none) (nd : H dx = none) (ne : dx ≠ x) : Wf (upd (upd H dx (.own x)) x (.ins C dx fs)) := fun b u e => by
  by_cases hb : b = x
  · subst hb
    rw [upd_same] at e
    cases e
    exact .inr ⟨C, dx, fs, rfl, by rw [upd_ne ne, upd_same]⟩
  · rw [upd_ne hb] at e
    by_cases hd : b = dx
    · subst hd
      rw [upd_same] at e
      cases e
      exact .inl trivial
    · rw [upd_ne hd] at e
      rcases w b u e with f | ⟨C', dx', fs', rfl, h⟩
      · exact .inl f
      · refine .inr ⟨C', dx', fs', rfl, ?_⟩
        rw [upd_ne (ne_of_none h nx), upd_ne (ne_of_none h nd)]
        exact h
end
end R
namespace R
open PySem PySem.Spec PyProof.Rows L2
theorem dpa5 {K : PySem.W.Frag} {H : Hp} {xs : List V} {ds : List PyData} (h : DpAll K H xs ds) (l : xs.length = 5) :
    ∃ x1 x2 x3 x4 x5 d1 d2 d3 d4 d5, xs = [x1, x2, x3, x4, x5] ∧ ds = [d1, d2, d3, d4, d5] ∧ Dp K H x1 d1 ∧ Dp K H x2 d2 ∧ Dp K H x3 d3 ∧ Dp K H x4 d4 ∧ Dp K H x5 d5 := by
  cases h with
  | nil => cases l
  | cons g1 h =>
    cases h with
    | nil => cases l
    | cons g2 h =>
      cases h with
      | nil => cases l
      | cons g3 h =>
        cases h with
        | nil => cases l
        | cons g4 h =>
          cases h with
          | nil => cases l
          | cons g5 h =>
            cases h with
            | nil => exact ⟨_, _, _, _, _, _, _, _, _, _, rfl, rfl, g1, g2, g3, g4, g5⟩
            | cons g6 h => simp at l
end R
namespace R
open PySem PySem.Spec PyProof.Rows L2
theorem hid_at {a b : Addr} {H : Hp} {o : HO} (n : b ≠ a) (h : H b = some o) : hid a H b = some o := by
  unfold hid
  rw [if_neg n]
  exact h
theorem exc_is {K : PySem.W.Frag} {mg : Str → Option Value} {x y : Str} {C D : Addr} {b : Bool} (e : Exc K mg x C) (s : PySem.W.subIn K (.ref C) (.ref C) = some true) (f : Exc K mg y D) (h : PySem.W.subIn K (.ref C) (.ref D) = some b) : PySem.W.kitOne K (.ref C) (.ref D) = some b :=
  exc_kit (x := x) f (fun z => by
    subst z
    rw [s] at h
    exact (Option.some.inj h).symm) h
theorem exc_ve {K : PySem.W.Frag} {mg : Str → Option Value} {x : Str} {C : Addr} (e : Exc K mg x C) : PySem.W.kitOne K (.ref C) (.type "ValueError") = some true := by
  unfold PySem.W.kitOne
  have n : ((Value.ref C) == Value.type "ValueError") = false := by simp
  rw [n]
  have m : PySem.W.kitMeta "ValueError" = true := by decide +kernel
  unfold PySem.W.kitCls
  simp only [m, if_true]
  simpa using e.v
theorem at_last {α : Type} {xs : List α} (h : xs ≠ []) : ∃ v, atI xs (-1) = some v ∧ v ∈ xs := by
  refine ⟨xs.getLast h, ?_, List.getLast_mem h⟩
  conv => lhs; rw [← List.dropLast_concat_getLast h]
  exact atI_last _ _
theorem cut_mem {xs : List V} {lo hi : Option Int} {v : V} (h : v ∈ cutV xs lo hi) : v ∈ xs := by
  unfold cutV at h
  exact List.mem_of_mem_drop (List.mem_of_mem_take h)
theorem cut_len {xs : List V} {lo hi : Option Int} : (cutV xs lo hi).length ≤ xs.length := by
  unfold cutV
  rw [List.length_take, List.length_drop]
  omega
end R
namespace R
open PySem PySem.Spec PyProof.Rows L2
theorem Dr.free {a p : Addr} {H H' : Hp} (x : Dr a H H') (n : H' p = none) : H p = none := by
  cases e : H p with
  | none => rfl
  | some o =>
    by_cases h : p = a
    · subst h
      obtain ⟨_, _, z, _⟩ := x.st
      rw [n] at z
      cases z
    · rw [x.kp p o h e] at n
      cases n
end R
namespace R
open PySem PySem.Spec PyProof.Rows L2
theorem tups_put {K : PySem.W.Frag} {H : Hp} {R : Addr} {xs : List V} {o : HO} (e : H R = some (.lst xs)) : ∀ p ys, SqT K H p ys → SqT K (upd H R o) p ys := fun p ys h => by
  rcases h with (h | ⟨z, h⟩) | h
  · exact .inl (.inl (by rw [upd_ne (ne_of h e (fun z => by cases z))]; exact h))
  · exact .inl (.inr ⟨z, by rw [upd_ne (ne_of h e (fun z => by cases z))]; exact h⟩)
  · exact .inr h
theorem same_put {H H' : Hp} {R : Addr} {o : HO} (s : Same H H') (n : H R = none) : Same H (upd H' R o) := fun b u e => by
  rw [upd_ne (ne_of_none e n)]
  exact s b u e
theorem st_put {H : Hp} {a R : Addr} {o : HO} (s : St2 H a) (n : R ≠ a) : St2 (upd H R o) a := by
  obtain ⟨p, q, e, h⟩ := s
  exact ⟨p, q, by rw [upd_ne n.symm]; exact e, h⟩
end R
namespace R
open PySem PySem.Spec PyProof.Rows L2
theorem pe_xc {X : Cx} {x : Str} {C : Addr} {pos : Pos} (e : Exc X.K X.mg x C) (hg : Gl X x := by rfl) (hd : (x == ("__debug__" : Str)) = false := by decide) : PE X (.Name x pos) (tC (.ref C)) := pe_glob hg e.g rfl hd
theorem pe_oc {X : Cx} {x : Str} {C : Addr} {pos : Pos} (e : OwnC X.K X.mg x C) (hg : Gl X x := by rfl) (hd : (x == ("__debug__" : Str)) = false := by decide) : PE X (.Name x pos) (tC (.ref C)) := pe_glob hg e.g rfl hd
theorem stL_ne {p q : Int} {xs : List V} : HO.tup xs ≠ stL p q := fun z => by cases z
theorem Dr.tups {K : PySem.W.Frag} {a : Addr} {H H' : Hp} (x : Dr a H H') (s : St2 H a) : ∀ p xs, SqT K H p xs → SqT K H' p xs := fun p xs h => by
  rcases h with (h | ⟨o, h⟩) | h
  · exact .inl (.inl (x.at h (fun _ _ => stL_ne) s))
  · refine .inl (.inr ⟨o, x.at h (fun _ _ z => by cases z) s⟩)
  · exact .inr h
theorem same_tups {K : PySem.W.Frag} {H H' : Hp} (x : Same H H') : ∀ p xs, SqT K H p xs → SqT K H' p xs := fun p xs h => sqt_keep (fun o e => x p o e) h
end R
namespace R
open PySem PySem.Spec PyProof.Rows L2
/-- two lists side by side -/
inductive Al2 {α β : Type} (P : α → β → Prop) : List α → List β → Prop where
  | nil : Al2 P [] []
  | cons {a b xs ys} : P a b → Al2 P xs ys → Al2 P (a :: xs) (b :: ys)
namespace Al2
variable {α β : Type} {P P' : α → β → Prop}
theorem len : ∀ {xs : List α} {ys : List β}, Al2 P xs ys → xs.length = ys.length
  | _, _, .nil => rfl
  | _, _, .cons _ h => by rw [List.length_cons, List.length_cons, len h]
theorem mono (f : ∀ a b, P a b → P' a b) : ∀ {xs : List α} {ys : List β}, Al2 P xs ys → Al2 P' xs ys
  | _, _, .nil => .nil
  | _, _, .cons p h => .cons (f _ _ p) (mono f h)
theorem snoc {a : α} {b : β} (p : P a b) : ∀ {xs : List α} {ys : List β}, Al2 P xs ys → Al2 P (xs ++ [a]) (ys ++ [b])
  | _, _, .nil => .cons p .nil
  | _, _, .cons q h => .cons q (snoc p h)
theorem app : ∀ {xs : List α} {ys : List β} {us : List α} {vs : List β}, Al2 P xs ys → Al2 P us vs → Al2 P (xs ++ us) (ys ++ vs)
  | _, _, _, _, .nil, g => g
  | _, _, _, _, .cons q h, g => .cons q (app h g)
theorem nth : ∀ {xs : List α} {ys : List β} {i : Nat} {a : α}, Al2 P xs ys → xs[i]? = some a → ∃ b, ys[i]? = some b ∧ P a b
  | _, _, _, _, .nil, e => by simp at e
  | _, _, 0, _, .cons p _, e => by
    simp at e
    subst e
    exact ⟨_, rfl, p⟩
  | _, _, _ + 1, _, .cons _ h, e => by
    simp at e
    obtain ⟨b, e2, p⟩ := nth h e
    exact ⟨b, by simpa using e2, p⟩
theorem mem {xs : List α} {ys : List β} {a : α} (h : Al2 P xs ys) (m : a ∈ xs) : ∃ b, b ∈ ys ∧ P a b := by
  obtain ⟨i, hi, rfl⟩ := List.getElem_of_mem m
  obtain ⟨b, e, p⟩ := h.nth (List.getElem?_eq_getElem hi)
  exact ⟨b, List.mem_of_getElem? e, p⟩
end Al2
/-- a place in a list, with what stands beside it -/
theorem Al2.at {β : Type} {P : V → β → Prop} {xs : List V} {ys : List β} {i : Int} (h : Al2 P xs ys) (h0 : 0 ≤ i) (h1 : i < xs.length) : ∃ v b, atI xs i = some v ∧ ys[i.toNat]? = some b ∧ P v b := by
  obtain ⟨j, rfl⟩ : ∃ j : Nat, i = j := ⟨i.toNat, by omega⟩
  have hj : j < xs.length := by omega
  obtain ⟨b, e, p⟩ := h.nth (List.getElem?_eq_getElem hj)
  exact ⟨xs[j], b, atI_nat (List.getElem?_eq_getElem hj), e, p⟩
end R
namespace R
theorem not_b {b : Bool} (h : (!b) = true) : b = false := by simpa using h
theorem not_b' {b : Bool} (h : (!b) = false) : b = true := by simpa using h
end R
namespace R
open PySem PySem.Spec PyProof.Rows L2
section
variable {X : Cx}
/-- in, of data of any depth -/
def rInDU (K : PySem.W.Frag) (n : Bool) : R2 := fun x y H Q => ∃ d ds, Dp K H x d ∧ (Dp K H y (.list ds) ∧ SeqAt.shaped (.list ds) = true ∨ Dp K H y (.tuple ds) ∧ SeqAt.shaped (.tuple ds) = true) ∧ SeqAt.shaped d = true ∧ Q (.bl (n != ds.any fun z => PyData.eqv z d)) H
theorem lay_tuple {ds : List PyData} (h : SeqAt.shaped (.tuple ds) = true) : PyData.canLayAll0 ds = true := by
  have := SeqAt.canLay_of_shaped h
  simpa [PyData.canLay0] using this
theorem roomU5 {k : Nat} {A : Around} (r : Room k A) : A.units + 65 < cLine := by have := r.un; omega
theorem opU_inD {K : PySem.W.Frag} {k : Nat} (r : Room k X.A) (hK : X.K = K := by rfl) : OpR X (compareOp .In) (rInDU K false) := by
  subst hK
  intro pins s σ H x y v u Q I rx ry h
  obtain ⟨d, ds, hd, he, sd, q⟩ := h
  have e : (false != ds.any fun z => PyData.eqv z d) = ds.any fun z => PyData.eqv z d := by simp
  rw [e] at q
  rcases he with ⟨he, se⟩ | ⟨he, se⟩
  · exact op_inD (roomU5 r) pins s σ H x y v u Q I rx ry ⟨d, ds, hd, he, sd, se, q⟩
  · obtain ⟨as, r1⟩ := Dp.reads I d x v hd rx
    obtain ⟨bs, r2⟩ := Dp.reads I (.tuple ds) y u he ry
    exact SeqAt.in_tuple_reads r2 r1 (lay_tuple se) (SeqAt.canLay_of_shaped sd) (room_in_shaped sd (roomU5 r)) ⟨.bl _, H, I, rfl, q⟩
theorem opU_notinD {K : PySem.W.Frag} {k : Nat} (r : Room k X.A) (hK : X.K = K := by rfl) : OpR X (compareOp .NotIn) (rInDU K true) := by
  subst hK
  intro pins s σ H x y v u Q I rx ry h
  obtain ⟨d, ds, hd, he, sd, q⟩ := h
  have e : (true != ds.any fun z => PyData.eqv z d) = !ds.any fun z => PyData.eqv z d := by simp
  rw [e] at q
  rcases he with ⟨he, se⟩ | ⟨he, se⟩
  · exact op_notInD (roomU5 r) pins s σ H x y v u Q I rx ry ⟨d, ds, hd, he, sd, se, q⟩
  · obtain ⟨as, r1⟩ := Dp.reads I d x v hd rx
    obtain ⟨bs, r2⟩ := Dp.reads I (.tuple ds) y u he ry
    exact SeqAt.notIn_tuple_reads r2 r1 (lay_tuple se) (SeqAt.canLay_of_shaped sd) (room_in_shaped sd (roomU5 r)) ⟨.bl _, H, I, rfl, q⟩
/-- text * number -/
def rMulS : R2 := fun x y H Q => match x, y with
  | .str z, .int n => MulOk z n ∧ Q (.str (Txt.mul z n)) H
  | _, _ => False
theorem opU_mulS : OpR X (binaryOp .Mult) rMulS := by
  intro pins s σ H x y v u Q I rx ry h
  unfold rMulS at h
  split at h
  · obtain ⟨t, rfl⟩ := rx
    obtain ⟨t', rfl⟩ := ry
    rename_i z n
    exact SB.mul h.1 fun t' k => ⟨.str (Txt.mul z n), H, I.tok _, ⟨_, rfl⟩, h.2⟩
  · exact h.elim
/-- t + u, t[i:j] of tuples, of any kind -/
def rAddA (K : PySem.W.Frag) : R2 := fun x y H Q => ∃ a b xs ys, x = .ref a ∧ y = .ref b ∧ SqT K H a xs ∧ SqT K H b ys ∧ xs.length + ys.length ≤ sizeLine ∧ ∀ p H', SqT K H' p (xs ++ ys) → Same H H' → (Wf H → Wf H') → Q (.ref p) H'
theorem opA_add {K : PySem.W.Frag} (hK : X.K = K := by rfl) : OpR X (binaryOp .Add) (rAddA K) := hK ▸ imp_o op_catA fun x y H Q q => by
  obtain ⟨a, b, xs, ys, rfl, rfl, ha, hb, hz, q⟩ := q
  refine ⟨a, b, xs, ys, rfl, rfl, ha, hb, hz, fun e => ?_, fun _ e => ?_, fun _ _ p np => ?_⟩
  · subst e
    exact q b H hb (Same.refl _) id
  · subst e
    refine q a H ?_ (Same.refl _) id
    rw [List.append_nil]
    exact ha
  · exact q p _ (.inl (.inl upd_same)) (same_new np) fun w => w.new trivial np
def rSlAU (K : PySem.W.Frag) : V → Option Int → Option Int → Hp → VK → Prop := fun x lo hi H Q => ∃ a xs, x = .ref a ∧ SqT K H a xs ∧ ∀ p H', SqT K H' p (cutV xs lo hi) → Same H H' → (Wf H → Wf H') → Q (.ref p) H'
theorem cutV_whole {xs : List V} {lo hi : Option Int} (h : HT.sIx xs.length 0 lo = 0 ∧ HT.sIx xs.length xs.length hi = xs.length) : cutV xs lo hi = xs := by
  unfold cutV
  rw [h.1, h.2, List.drop_zero, Nat.sub_zero, List.take_of_length_le (Nat.le_refl _)]
theorem slA {K : PySem.W.Frag} (hK : X.K = K := by rfl) : SlR X (rSlAU K) := by
  subst hK
  intro pins s σ H x v vl vu lo hi sl Q I rx hs pl pu h
  obtain ⟨a, xs, rfl, hx, q⟩ := h
  refine sl_tupA pins s σ H _ v vl vu lo hi sl Q I rx hs pl pu ⟨a, xs, rfl, hx, fun e => ?_, fun _ p np => ?_⟩
  · exact q a H (by rw [cutV_whole e]; exact hx) (Same.refl _) id
  · exact q p _ (.inl (.inl upd_same)) (same_new np) fun w => w.new trivial np
theorem pe_revK {K : PySem.W.Frag} {e : Expr} {te : TE} {k : Nat} {p1 p2 p3 pos : Pos} (he : PE X e te) (hK : X.K = K := by rfl) : PE X (.Subscript e (.Slice none none (some (.UnaryOp .USub (.Constant (.int 1) k p1) p2)) p3) pos) (tRevL K te) := hK ▸ pe_revL he
end
end R
namespace R
open PySem PySem.Spec PyProof.Rows L2
theorem ty_same {K : PySem.W.Frag} {H H' : Hp} {x : V} {t : Value} (s : Same H H') (h : TyX K H x t) : TyX K H' x t := by
  cases h with
  | base h =>
    cases h with
    | non => exact .base .non
    | bl b => exact .base (.bl b)
    | int i => exact .base (.int i)
    | str z => exact .base (.str z)
    | flt z => exact .base (.flt z)
    | lst e => exact .base (.lst (s _ _ e))
    | frz e => exact .base (.frz (s _ _ e))
    | tup e => exact .base (.tup (s _ _ e))
    | dK e => exact .base (.dK (s _ _ e))
    | dT e => exact .base (.dT (s _ _ e))
    | ins e cl ha hn htk hm => exact .base (.ins (s _ _ e) cl ha hn htk hm)
  | byt b => exact .byt b
  | set e => exact .set (s _ _ e)
  | kList e c => exact .kList e c
  | kTuple e c => exact .kTuple e c
  | kDict e c => exact .kDict e c
  | fTuple e => exact .fTuple (s _ _ e)
  | fDict e => exact .fDict (s _ _ e)
theorem isi_same {K : PySem.W.Frag} {H H' : Hp} {x : V} {n : String} {b : Bool} (s : Same H H') (h : IsiV K H x n b) : IsiV K H' x n b := by
  obtain ⟨t, h1, h2⟩ := h
  exact ⟨t, ty_same s h1, h2⟩
theorem kn_same {K : PySem.W.Frag} {H H' : Hp} {v : V} (s : Same H H') (h : Kn K H v) : Kn K H' v := by
  cases v with
  | non => trivial
  | bl _ => trivial
  | int _ => trivial
  | str _ => trivial
  | ref p =>
    rcases h with h | h | h
    · exact .inl (ty_same s h)
    · exact .inr (.inl (ty_same s h))
    · exact .inr (.inr (ty_same s h))
  | byt _ => exact h.elim
  | flt _ => exact h.elim
  | ty _ => exact h.elim
theorem cutS_len {z : Str} {lo hi : Option Int} : (cutS z lo hi).length ≤ z.length := by
  unfold cutS
  have e : z.length = z.cps.toList.length := (Array.length_toList).symm
  rw [e]
  show (Array.size _) ≤ _
  simp
  omega
/-- the signs of some words, one more for each -/
def mu (ws : List Str) : Nat := (ws.map fun w => w.length + 1).sum
theorem mu_nil : mu [] = 0 := rfl
theorem mu_cons (w : Str) (ws : List Str) : mu (w :: ws) = w.length + 1 + mu ws := rfl
theorem mu_app (ws us : List Str) : mu (ws ++ us) = mu ws + mu us := by
  induction ws with
  | nil => simp [mu_nil]
  | cons w r ih =>
    rw [List.cons_append, mu_cons, mu_cons, ih]
    omega
theorem mu_take (ws : List Str) (n : Nat) : mu (ws.take n) ≤ mu ws := by
  conv => rhs; rw [← List.take_append_drop n ws, mu_app]
  omega
theorem mu_drop (ws : List Str) (n : Nat) : mu (ws.drop n) ≤ mu ws := by
  conv => rhs; rw [← List.take_append_drop n ws, mu_app]
  omega
theorem mu_rev (ws : List Str) : mu ws.reverse = mu ws := by
  induction ws with
  | nil => rfl
  | cons w r ih =>
    rw [List.reverse_cons, mu_app, ih, mu_cons, mu_cons, mu_nil]
    omega
theorem mu_len (ws : List Str) : ws.length ≤ mu ws := by
  induction ws with
  | nil => exact Nat.zero_le _
  | cons w r ih =>
    rw [List.length_cons, mu_cons]
    omega
theorem mu_mem {ws : List Str} {w : Str} (h : w ∈ ws) : w.length + 1 ≤ mu ws := by
  induction ws with
  | nil => cases h
  | cons x r ih =>
    rw [mu_cons]
    rcases List.mem_cons.mp h with rfl | h
    · omega
    · have := ih h
      omega
theorem cut_strs (ws : List Str) (lo hi : Option Int) : ∃ us : List Str, cutV (ws.map V.str) lo hi = us.map V.str ∧ mu us ≤ mu ws ∧ ∀ w ∈ us, w ∈ ws := by
  refine ⟨(ws.drop (HT.sIx (ws.map V.str).length 0 lo)).take (HT.sIx (ws.map V.str).length (ws.map V.str).length hi - HT.sIx (ws.map V.str).length 0 lo), ?_, ?_, ?_⟩
  · unfold cutV
    rw [← List.map_drop, ← List.map_take]
  · exact Nat.le_trans (mu_take _ _) (mu_drop _ _)
  · intro w hw
    exact List.mem_of_mem_drop (List.mem_of_mem_take hw)
theorem mu_sum (ws : List Str) : mu ws = (ws.map (·.length)).sum + ws.length := by
  induction ws with
  | nil => rfl
  | cons w r ih =>
    rw [mu_cons, ih, List.map_cons, List.sum_cons, List.length_cons]
    omega
theorem Dr.same' {a : Addr} {H H' : Hp} (s : Same H H') (t : St2 H a) (w : Wf H') : Dr a H H' := by
  obtain ⟨p, q, e, h⟩ := t
  exact ⟨fun b o _ e => s b o e, ⟨p, q, s _ _ e, h⟩, w⟩
end R
namespace W
open PySem PySem.Spec PyProof.Rows L2 R
def topS (i : Nat) : Stmt := PySem.Challenge.pw_rowlent_k07_texts_of_no_rule.main.body.getD i (.Pass ⟨0, 0, 0, 0⟩)

structure Ad where
  LentError : Addr
  NoRule : Addr
  NoTry : Addr
  NoText : Addr
  NoRow : Addr

structure Txt (K : PySem.W.Frag) (mg : Str → Option Value) (c : Ad) : Prop where
  m_isinstance : mg "isinstance" = none
  m_int : mg "int" = none
  m_bool : mg "bool" = none
  m_all : mg "all" = none
  m_len : mg "len" = none
  m_tuple : mg "tuple" = none
  m_str : mg "str" = none
  m_range : mg "range" = none
  m_ValueError : mg "ValueError" = none
  m_min : mg "min" = none
  g_MOST_FIGURES : GlV mg "MOST_FIGURES" (.int 13)
  g_FIGURES : GlV mg "FIGURES" (.str "0123456789")
  g_MOST_PAUSES : GlV mg "MOST_PAUSES" (.int 10)
  g_MOST_SPAN : GlV mg "MOST_SPAN" (.int 1000000)
  t_ORDERS : ∃ a, GlV mg "ORDERS" (.ref a) ∧ ∀ H, SqT K H a [.str "put", .str "turns"]
  g_MOST_OUT : GlV mg "MOST_OUT" (.int 200)
  g_MOST_TRIES : GlV mg "MOST_TRIES" (.int 20)
  x_LentError : Exc K mg "LentError" c.LentError
  x_NoRule : Exc K mg "NoRule" c.NoRule
  x_NoTry : Exc K mg "NoTry" c.NoTry
  x_NoText : Exc K mg "NoText" c.NoText
  x_NoRow : Exc K mg "NoRow" c.NoRow
  u_NoRule_LentError : PySem.W.subIn K (.ref c.NoRule) (.ref c.LentError) = some true
  u_NoRule_NoRow : PySem.W.subIn K (.ref c.NoRule) (.ref c.NoRow) = some false
  u_NoRule_NoText : PySem.W.subIn K (.ref c.NoRule) (.ref c.NoText) = some false
  u_NoRule_NoTry : PySem.W.subIn K (.ref c.NoRule) (.ref c.NoTry) = some false
  u_NoRule_NoRule : PySem.W.subIn K (.ref c.NoRule) (.ref c.NoRule) = some true
  f_is_whole : FnAt K mg "is_whole" "is_whole" (topS 9) ["thing", "low", "high"]
  f_whole_of : FnAt K mg "whole_of" "whole_of" (topS 10) ["word"]
  f_joined : FnAt K mg "joined" "joined" (topS 11) ["words", "between"]
  f_are_pauses : FnAt K mg "are_pauses" "are_pauses" (topS 18) ["thing"]
  f_is_rule : FnAt K mg "is_rule" "is_rule" (topS 19) ["thing"]
  f_sure_rule : FnAt K mg "sure_rule" "sure_rule" (topS 20) ["rule"]
  f_rule_text : FnAt K mg "rule_text" "rule_text" (topS 21) ["rule"]
  f_pauses_of : FnAt K mg "pauses_of" "pauses_of" (topS 22) ["word"]
  f_rule_of : FnAt K mg "rule_of" "rule_of" (topS 23) ["words"]
  f_read_rule : FnAt K mg "read_rule" "read_rule" (topS 24) ["text"]
  f__law_cell_at : FnAt K mg "_law_cell_at" "_law_cell_at" (topS 26) ["_law_script", "_law_k"]
  f__law_state : FnAt K mg "_law_state" "_law_state" (topS 27) ["_law_cell", "_law_k"]
  f__law_mixed : FnAt K mg "_law_mixed" "_law_mixed" (topS 28) ["_law_number"]
  f__law_digit : FnAt K mg "_law_digit" "_law_digit" (topS 29) ["_law_state_here", "_law_base"]
  f__law_rule : FnAt K mg "_law_rule" "_law_rule" (topS 30) ["_law_state_here"]
  f__law_text : FnAt K mg "_law_text" "_law_text" (topS 31) ["_law_rule_here"]
  f__law_whole : FnAt K mg "_law_whole" "_law_whole" (topS 32) ["_law_word", "_law_low", "_law_high"]
  f__law_read : FnAt K mg "_law_read" "_law_read" (topS 33) ["_law_text_here"]
  f__law_by_sign : FnAt K mg "_law_by_sign" "_law_by_sign" (topS 34) ["_law_state_here", "_law_text_here"]
  f__law_by_word : FnAt K mg "_law_by_word" "_law_by_word" (topS 35) ["_law_state_here", "_law_text_here"]
  f__law_by_number : FnAt K mg "_law_by_number" "_law_by_number" (topS 36) ["_law_state_here", "_law_text_here"]
  f__law_spoilt : FnAt K mg "_law_spoilt" "_law_spoilt" (topS 37) ["_law_state_here", "_law_text_here"]
  f__law_told : FnAt K mg "_law_told" "_law_told" (topS 38) ["_law_text_here"]


abbrev lets : List Nat := ("abcdefghijklmnopqrstuvwxyz" : Str).cps.toList
def isNameB : V → Bool
  | .str z => decide (1 ≤ (z.length : Int)) && decide ((z.length : Int) ≤ 8) && z.cps.toList.all fun c => decide (c ∈ lets)
  | _ => false
def isWholeB : V → Int → Int → Bool
  | .int n, a, b => decide (a ≤ n) && decide (n ≤ b)
  | _, _, _ => false
def Short (v : V) : Prop := ∀ z, v = .str z → z.length ≤ 1000000 ∧ sOk z

abbrev s_is_whole : Stmt := topS 9
abbrev N_is_whole : List Str := ["thing", "low", "high"]
theorem sc_is_whole : FnScope N_is_whole ["thing", "low", "high"] (defScope s_is_whole) := ⟨rfl, rfl, rfl, by decide +kernel, rfl, by decide +kernel, by decide +kernel⟩
def sp_is_whole (K : PySem.W.Frag) (c : Ad) : Sp := fun vs H Q E => arg3 (fun v lo hi => ∃ a b, lo = .int a ∧ hi = .int b ∧ Kn K H v ∧ Wf H ∧ Q (.bl (isWholeB v a b)) H) vs
theorem ok_is_whole {P : Program} {w : World} {K : PySem.W.Frag} {mg : Str → Option Value} {base : Heap} {c : Ad} (T : Txt K mg c) : Ok P w K mg base 1 "is_whole" ["thing", "low", "high"] (sp_is_whole K c) := by
  refine okF T.f_is_whole sc_is_whole (fun vs H Q E h => ?_) (fun f cdv A outer sh H vs Q E hr h => ?_)
  · obtain ⟨v, lo, hi, rfl, h⟩ := arg3.ex h
    rfl
  · obtain ⟨v, lo, hi, rfl, h⟩ := arg3.ex h
    have tk : Takes (cxOf (L2.CX P w) P w K mg base N_is_whole "is_whole" (defScope s_is_whole) f cdv A outer sh H (bE H E)) (fun cls d _ H' => bE H E cls d H') := takes_of rfl rfl rfl rfl
    refine ⟨_, pss_one (ps_ret (pe_andU (K := K) (pe_callB (callU_isi (K := K)) (by rfl) T.m_isinstance (by decide +kernel) (pa_cons (lv 0) (pa_cons (pe_ty "int" T.m_int) pa_nil))) (pe_andU (K := K) (pe_notU (K := K) (pe_callB (callU_isi (K := K)) (by rfl) T.m_isinstance (by decide +kernel) (pa_cons (lv 0) (pa_cons (pe_ty "bool" T.m_bool) pa_nil)))) (pe_one (pe_chainU opU_le opU_le (lv 1) (lv 0) (lv 2)))))), ?_⟩
    obtain ⟨a, b, rfl, rfl, hk, wf, k⟩ := h
    refine ⟨_, isk_int hk, ?_⟩
    cases v with
    | int n =>
      refine ⟨_, isk_bool hk, ?_⟩
      refine iteC (fun h1 => ?_) (fun h1 => ?_)
      · refine bQ.same wf (Same.refl _) ?_
        have e : isWholeB (.int n) a b = decide (n ≤ b) := by
          show (decide (a ≤ n) && decide (n ≤ b)) = _
          rw [decide_eq_true h1, Bool.true_and]
        rw [← e]
        exact k
      · refine bQ.same wf (Same.refl _) ?_
        have e : isWholeB (.int n) a b = false := by
          show (decide (a ≤ n) && decide (n ≤ b)) = _
          rw [decide_eq_false h1, Bool.false_and]
        rw [← e]
        exact k
    | bl c =>
      refine ⟨_, isk_bool hk, ?_⟩
      exact bQ.same wf (Same.refl _) k
    | str z => exact bQ.same wf (Same.refl _) k
    | non => exact bQ.same wf (Same.refl _) k
    | ref p => exact bQ.same wf (Same.refl _) k
    | byt b => exact hk.elim
    | flt b => exact hk.elim
    | ty b => exact hk.elim

def ScrL (K : PySem.W.Frag) (H : Hp) (v : V) (ns : List Int) : Prop := ∃ a, v = .ref a ∧ SqL K H a (ns.map V.int) ∧ ns.length ≤ 63
theorem mixed_b {r m : Int} (h : 0 < m) : 0 ≤ r % m ∧ r % m < m := ⟨Int.emod_nonneg _ (by omega), Int.emod_lt_of_pos _ h⟩
theorem mul_b {x y : Int} {a b : Nat} (hx0 : 0 ≤ x) (hx : x < 2 ^ a) (hy0 : 0 ≤ y) (hy : y < 2 ^ b) (h0 : 0 < a) (h1 : 0 < b) (h : a + b ≤ 1000000) : CMulW x y := by
  have e1 : (2 : Int) ^ a = ((2 ^ a : Nat) : Int) := by simp
  have e2 : (2 : Int) ^ b = ((2 ^ b : Nat) : Int) := by simp
  refine wide_mul (a := a) (b := b) ?_ ?_ h0 h1 h
  · omega
  · omega
theorem div_b {x j : Int} {b : Nat} (h : 0 < j) (hb : j.natAbs < 2 ^ b) (h0 : 0 < b) (h9 : b ≤ 9000) : CDivW x j := wide_div h hb h0 h9
/-- small enough for a digit -/
def Bas (b : Int) : Prop := 0 < b ∧ b.natAbs.log2 < 9000
theorem bas_lt {b : Int} (h : 0 < b) (h2 : b < 2 ^ 200) : Bas b := ⟨h, by
  have e : b.natAbs < 2 ^ 200 := by omega
  exact Nat.lt_trans (PySem.Flt.log2_lt_of (by decide) e) (by decide)⟩
theorem log_le {x y : Nat} (h : x ≤ y) : x.log2 ≤ y.log2 := by
  by_cases hx : x = 0
  · subst hx; simp
  · exact (Nat.le_log2 (by omega)).2 (Nat.le_trans (Nat.log2_self_le hx) h)

abbrev s__law_cell_at : Stmt := topS 26
abbrev N__law_cell_at : List Str := ["_law_script", "_law_k"]
theorem sc__law_cell_at : FnScope N__law_cell_at ["_law_script", "_law_k"] (defScope s__law_cell_at) := ⟨rfl, rfl, rfl, by decide +kernel, rfl, by decide +kernel, by decide +kernel⟩
def sp__law_cell_at (K : PySem.W.Frag) (c : Ad) : Sp := fun vs H Q E => arg2 (fun s k => ∃ ns j, ScrL K H s ns ∧ k = .int j ∧ 0 ≤ j ∧ Wf H ∧ ∀ n, Q (.int n) H) vs
theorem ok__law_cell_at {P : Program} {w : World} {K : PySem.W.Frag} {mg : Str → Option Value} {base : Heap} {c : Ad} (T : Txt K mg c) : Ok P w K mg base 1 "_law_cell_at" ["_law_script", "_law_k"] (sp__law_cell_at K c) := by
  refine okF T.f__law_cell_at sc__law_cell_at (fun vs H Q E h => ?_) (fun f cdv A outer sh H vs Q E hr h => ?_)
  · obtain ⟨s, k, rfl, h⟩ := arg2.ex h
    rfl
  · obtain ⟨s, k, rfl, h⟩ := arg2.ex h
    have tk : Takes (cxOf (L2.CX P w) P w K mg base N__law_cell_at "_law_cell_at" (defScope s__law_cell_at) f cdv A outer sh H (bE H E)) (fun cls d _ H' => bE H E cls d H') := takes_of rfl rfl rfl rfl
    refine ⟨_, pss_cons (ps_if (pt_cmpU opU_lt (lv 1) (pe_callB (callU_len (K := K)) (by rfl) T.m_len (by decide +kernel) (pa_cons (lv 0) pa_nil)) (nomark _))
      (pss_one (ps_ret (pe_ix (ixU (K := K)) (lv 0) (lv 1) (fun _ _ => rfl)))) pss_nil)
      (pss_one (ps_ret pe_int)), ?_⟩
    obtain ⟨ns, j, ⟨a, rfl, hS, hl⟩, rfl, hj, wf, k⟩ := h
    refine .inl ⟨_, .inl hS, ?_⟩
    refine iteC (fun h1 => ?_) (fun h1 => ?_)
    · obtain ⟨v, hv, hm⟩ := at_lt hj h1
      obtain ⟨n, _, rfl⟩ := List.mem_map.mp hm
      exact ⟨_, _, .inl hS, hv, bQ.same wf (Same.refl _) (k n)⟩
    · exact bQ.same wf (Same.refl _) (k 0)

abbrev s__law_state : Stmt := topS 27
abbrev N__law_state : List Str := ["_law_cell", "_law_k"]
theorem sc__law_state : FnScope N__law_state ["_law_cell", "_law_k"] (defScope s__law_state) := ⟨rfl, rfl, rfl, by decide +kernel, rfl, by decide +kernel, by decide +kernel⟩
def sp__law_state (K : PySem.W.Frag) (c : Ad) : Sp := fun vs H Q E => arg2 (fun c k => ∃ n j, c = .int n ∧ k = .int j ∧ 0 ≤ j ∧ j < 100 ∧ Wf H ∧ ∀ p q a, H a = none → 0 ≤ p → Q (.ref a) (upd H a (stL p q))) vs
theorem ok__law_state {P : Program} {w : World} {K : PySem.W.Frag} {mg : Str → Option Value} {base : Heap} {c : Ad} (T : Txt K mg c) : Ok P w K mg base 1 "_law_state" ["_law_cell", "_law_k"] (sp__law_state K c) := by
  refine okF T.f__law_state sc__law_state (fun vs H Q E h => ?_) (fun f cdv A outer sh H vs Q E hr h => ?_)
  · obtain ⟨c, k, rfl, h⟩ := arg2.ex h
    rfl
  · obtain ⟨c, k, rfl, h⟩ := arg2.ex h
    have tk : Takes (cxOf (L2.CX P w) P w K mg base N__law_state "_law_state" (defScope s__law_state) f cdv A outer sh H (bE H E)) (fun cls d _ H' => bE H E cls d H') := takes_of rfl rfl rfl rfl
    refine ⟨_, pss_one (ps_ret (pe_lst (pa_cons (pe_op opU_mul (lv 0) (pe_callTy callU_int (by rfl) T.m_int (by decide +kernel) (pa_cons (pe_cmpR opU_ge (lv 0) (pe_op opU_pow pe_int pe_int) (nomark _)) pa_nil))) (pa_cons (pe_op (opU_add (K := K)) (pe_op opU_mod (lv 0) pe_int) (pe_op opU_mul pe_int (lv 1))) pa_nil)))), ?_⟩
    obtain ⟨n, j, rfl, rfl, h0, h1, wf, k⟩ := h
    refine ⟨⟨by decide, by decide, by decide⟩, ?_⟩
    refine ⟨.inl (.inr (by split <;> exact ⟨by decide, by decide⟩)), ?_⟩
    refine ⟨by decide, ?_⟩
    refine ⟨.inl (.inl ⟨by decide, by decide⟩), ?_⟩
    refine ⟨line_of (show 2 ≤ 16777216 by decide), fun a na => bQ.mk (wf.new trivial na) (k _ _ a na ?_)⟩
    split
    · rename_i e
      have e2 := of_decide_eq_true e
      have e3 : (10 : Int) ^ Int.toNat 18 = 1000000000000000000 := by decide
      omega
    · omega

abbrev s__law_mixed : Stmt := topS 28
abbrev N__law_mixed : List Str := ["_law_number"]
theorem sc__law_mixed : FnScope N__law_mixed ["_law_number"] (defScope s__law_mixed) := ⟨rfl, rfl, rfl, by decide +kernel, rfl, by decide +kernel, by decide +kernel⟩
def sp__law_mixed (K : PySem.W.Frag) (c : Ad) : Sp := fun vs H Q E => arg1 (fun x => ∃ n, x = .int n ∧ Wf H ∧ ∀ r, 0 ≤ r → Q (.int r) H) vs
theorem ok__law_mixed {P : Program} {w : World} {K : PySem.W.Frag} {mg : Str → Option Value} {base : Heap} {c : Ad} (T : Txt K mg c) : Ok P w K mg base 1 "_law_mixed" ["_law_number"] (sp__law_mixed K c) := by
  refine okF T.f__law_mixed sc__law_mixed (fun vs H Q E h => ?_) (fun f cdv A outer sh H vs Q E hr h => ?_)
  · obtain ⟨x, rfl, h⟩ := arg1.ex h
    rfl
  · obtain ⟨x, rfl, h⟩ := arg1.ex h
    have tk : Takes (cxOf (L2.CX P w) P w K mg base N__law_mixed "_law_mixed" (defScope s__law_mixed) f cdv A outer sh H (bE H E)) (fun cls d _ H' => bE H E cls d H') := takes_of rfl rfl rfl rfl
    refine ⟨_, pss_cons (ps_set (i := 0) sc__law_mixed.nd rfl (.inl rfl) (pe_op opU_mod (pe_op opU_mul (pe_op (opU_add (K := K)) (pe_op opU_mod (lv 0) pe_int) pe_int) pe_int) pe_int))
      (pss_cons (ps_set (i := 0) sc__law_mixed.nd rfl (.inl rfl) (pe_op opU_mod (pe_op opU_mul (lv 0) (pe_op (opU_add (K := K)) (pe_op opU_div (lv 0) pe_int) pe_int)) pe_int))
      (pss_one (ps_ret (pe_op opU_mod (pe_op opU_mul (pe_op (opU_add (K := K)) (lv 0) pe_int) (pe_op (opU_add (K := K)) (pe_op opU_div (lv 0) pe_int) pe_int)) pe_int)))), ?_⟩
    obtain ⟨n, rfl, wf, k⟩ := h
    have b1 := @mixed_b n 2147483647 (by decide)
    refine ⟨by decide, ?_⟩
    refine ⟨.inr <| mul_b (a := 32) (b := 16) (by omega) (by omega) (by decide) (by decide) (by decide) (by decide) (by decide), ?_⟩
    refine ⟨by decide, ?_⟩
    generalize hx : (n % 2147483647 + 1) * 48271 % 2147483647 = x
    have b2 : 0 ≤ x ∧ x < 2147483647 := by rw [← hx]; exact mixed_b (by decide)
    refine ⟨div_b (b := 10) (by decide) (by decide) (by decide) (by decide), ?_⟩
    refine ⟨.inr <| mul_b (a := 31) (b := 32) (by omega) (by omega) (by omega) (by omega) (by decide) (by decide) (by decide), ?_⟩
    refine ⟨by decide, ?_⟩
    generalize hy : x * (x / 1009 + 69621) % 2147483647 = y
    have b3 : 0 ≤ y ∧ y < 2147483647 := by rw [← hy]; exact mixed_b (by decide)
    refine ⟨div_b (b := 10) (by decide) (by decide) (by decide) (by decide), ?_⟩
    refine ⟨.inr <| mul_b (a := 32) (b := 32) (by omega) (by omega) (by omega) (by omega) (by decide) (by decide) (by decide), ?_⟩
    refine ⟨by decide, ?_⟩
    exact bQ.same wf (Same.refl _) (k _ (mixed_b (by decide)).1)

abbrev s__law_digit : Stmt := topS 29
abbrev N__law_digit : List Str := ["_law_state_here", "_law_base", "_law_found"]
theorem sc__law_digit : FnScope N__law_digit ["_law_state_here", "_law_base"] (defScope s__law_digit) := ⟨rfl, rfl, rfl, by decide +kernel, rfl, by decide +kernel, by decide +kernel⟩
def sp__law_digit (K : PySem.W.Frag) (c : Ad) : Sp := fun vs H Q E => arg2 (fun s b => ∃ a m, s = .ref a ∧ b = .int m ∧ St2 H a ∧ Bas m ∧ Wf H ∧ ∀ r p q, 0 ≤ r → r < m → 0 ≤ p → Q (.int r) (upd H a (stL p q))) vs
theorem ok__law_digit {P : Program} {w : World} {K : PySem.W.Frag} {mg : Str → Option Value} {base : Heap} {c : Ad} (T : Txt K mg c) : Ok P w K mg base 2 "_law_digit" ["_law_state_here", "_law_base"] (sp__law_digit K c) := by
  refine okF T.f__law_digit sc__law_digit (fun vs H Q E h => ?_) (fun f cdv A outer sh H vs Q E hr h => ?_)
  · obtain ⟨s, b, rfl, h⟩ := arg2.ex h
    rfl
  · obtain ⟨s, b, rfl, h⟩ := arg2.ex h
    have tk : Takes (cxOf (L2.CX P w) P w K mg base N__law_digit "_law_digit" (defScope s__law_digit) f cdv A outer sh H (bE H E)) (fun cls d _ H' => bE H E cls d H') := takes_of rfl rfl rfl rfl
    refine ⟨_, pss_cons (ps_if (pt_cmpU opU_gt (pe_ix (ixU (K := K)) (lv 0) pe_int (fun _ _ => rfl)) pe_int (nomark _))
      (pss_cons (ps_set (i := 2) sc__law_digit.nd rfl (.inl rfl) (pe_op opU_mod (pe_ix (ixU (K := K)) (lv 0) pe_int (fun _ _ => rfl)) (lv 1)))
      (pss_cons (ps_asg (pe_op opU_div (pe_ix (ixU (K := K)) (lv 0) pe_int (fun _ _ => rfl)) (lv 1)) (pg_sub (lv 0) pe_int setU))
      (pss_one (ps_ret (lv 2))))) pss_nil)
      (pss_cons (ps_asg (pe_f (ok__law_mixed (K := K) T) hr passL (pa_cons (pe_op (opU_add (K := K)) (pe_ix (ixU (K := K)) (lv 0) pe_int (fun _ _ => rfl)) pe_int) pa_nil)) (pg_sub (lv 0) pe_int setU))
      (pss_one (ps_ret (pe_op opU_mod (pe_op opU_div (pe_ix (ixU (K := K)) (lv 0) pe_int (fun _ _ => rfl)) pe_int) (lv 1))))), ?_⟩
    obtain ⟨a, m, rfl, rfl, ⟨p, q, e, hp⟩, ⟨hm, hb⟩, wf, k⟩ := h
    have s1 : ∀ {H : Hp} {p q : Int}, H a = some (stL p q) → SqL K H a [.int p, .int q] := fun h => .inl (.inl h)
    have g0 : ∀ {p q : Int}, atI [V.int p, V.int q] 0 = some (.int p) := fun {p q} => rfl
    have g1 : ∀ {p q : Int}, atI [V.int p, V.int q] 1 = some (.int q) := fun {p q} => rfl
    refine ⟨_, _, .inl (s1 e), g0, ?_⟩
    refine iteC (fun h1 => ?_) (fun h1 => ?_)
    · refine ⟨_, _, .inl (s1 e), g0, hm, ?_⟩
      refine ⟨_, _, .inl (s1 e), g0, ⟨hm, hb⟩, ?_⟩
      refine ⟨_, 0, e, rfl, ?_⟩
      exact bQ.mk (wf.at trivial e fun x z => by cases z) (k _ _ _ (mixed_b hm).1 (mixed_b hm).2 (Int.ediv_nonneg hp (by omega)))
    · refine ⟨_, _, .inl (s1 e), g1, ?_⟩
      refine ⟨_, rfl, wf, fun r hr => ?_⟩
      refine ⟨_, 1, e, rfl, ?_⟩
      have e1 : (upd H a (stL p r)) a = some (stL p r) := upd_same
      refine ⟨_, _, .inl (s1 e1), g1, div_b (b := 8) (by decide) (by decide) (by decide) (by decide), hm, ?_⟩
      exact bQ.mk (wf.at trivial e fun x z => by cases z) (k _ _ _ (mixed_b hm).1 (mixed_b hm).2 hp)

def isCountB : V → Bool | .int n => decide (0 ≤ n) | _ => false
def isWholeD : PyData → Int → Int → Bool
  | .int n, a, b => decide (a ≤ n) && decide (n ≤ b)
  | _, _, _ => false
theorem whole_dp {K : PySem.W.Frag} {H : Hp} {v : V} {d : PyData} (h : Dp K H v d) (a b : Int) : isWholeB v a b = isWholeD d a b := by cases h <;> rfl
def arePausesD : PyData → Bool
  | .tuple ds => decide ((ds.length : Int) ≤ 10) && ds.all fun d => isWholeD d 0 1000000
  | _ => false
def isOrderD : PyData → Bool
  | .str z => inV (.str z) [.str "put", .str "turns"]
  | _ => false
def isRuleD : PyData → Bool
  | .tuple [a, b, c, e, f] => isOrderD a && (isWholeD b 1 20 && isWholeD c 1 1000000) && (arePausesD e && isWholeD f 0 200)
  | _ => false
theorem all_whole {K : PySem.W.Frag} {H : Hp} : ∀ {xs : List V} {ds : List PyData}, DpAll K H xs ds → ∀ a b : Int, (xs.map fun x => isWholeB x a b) = ds.map fun d => isWholeD d a b
  | _, _, .nil, _, _ => rfl
  | _, _, .cons h r, a, b => by rw [List.map_cons, List.map_cons, whole_dp h, all_whole r]
theorem rule_len {ds : List PyData} (h : ds.length ≠ 5) : isRuleD (.tuple ds) = false := by
  match ds, h with
  | [], _ => rfl
  | [_], _ => rfl
  | [_, _], _ => rfl
  | [_, _, _], _ => rfl
  | [_, _, _, _], _ => rfl
  | [_, _, _, _, _], h => exact absurd rfl h
  | _ :: _ :: _ :: _ :: _ :: _ :: _, _ => rfl

abbrev s_are_pauses : Stmt := topS 18
abbrev N_are_pauses : List Str := ["thing", "pause"]
theorem sc_are_pauses : FnScope N_are_pauses ["thing"] (defScope s_are_pauses) := ⟨rfl, rfl, rfl, by decide +kernel, rfl, by decide +kernel, by decide +kernel⟩
def sp_are_pauses (K : PySem.W.Frag) (c : Ad) : Sp := fun vs H Q E => arg1 (fun v => ∃ d, Dp K H v d ∧ Wf H ∧ Q (.bl (arePausesD d)) H) vs
theorem ok_are_pauses {P : Program} {w : World} {K : PySem.W.Frag} {mg : Str → Option Value} {base : Heap} {c : Ad} (T : Txt K mg c) : Ok P w K mg base 2 "are_pauses" ["thing"] (sp_are_pauses K c) := by
  refine okF T.f_are_pauses sc_are_pauses (fun vs H Q E h => ?_) (fun f cdv A outer sh H vs Q E hr h => ?_)
  · obtain ⟨v, rfl, h⟩ := arg1.ex h
    rfl
  · obtain ⟨v, rfl, h⟩ := arg1.ex h
    have tk : Takes (cxOf (L2.CX P w) P w K mg base N_are_pauses "are_pauses" (defScope s_are_pauses) f cdv A outer sh H (bE H E)) (fun cls d _ H' => bE H E cls d H') := takes_of rfl rfl rfl rfl
    refine ⟨_, pss_cons (ps_if (PW.pt (pw_or (pt_not (pt_truthU (K := K) (pe_callB (callU_isi (K := K)) (by rfl) T.m_isinstance (by decide +kernel) (pa_cons (lv 0) (pa_cons (pe_ty "tuple" T.m_tuple) pa_nil))) (by intro _; rfl))) (pw_or1 (pt_cmpU opU_gt (pe_callB (callU_len (K := K)) (by rfl) T.m_len (by decide +kernel) (pa_cons (lv 0) pa_nil)) (pe_g T.g_MOST_PAUSES) (nomark _)))))
      (pss_one (ps_ret pe_bl)) pss_nil)
      (pss_one (ps_ret (pe_callB (callU_all (K := K) rfl) (by rfl) T.m_all (by decide +kernel) (pa_cons (pe_lc (own := [("pause", 1)]) (g := gName 1) rfl sc_are_pauses.nd (pi_tupK (K := K) (lv 0)) (blkOk_by (own := [("pause", 1)]) (N := N_are_pauses) (sc := defScope s_are_pauses) (by decide +kernel)) (fun _ _ _ _ _ => pg_name (i := 1) sc_are_pauses.nd rfl (.inl rfl)) (fun _ _ _ _ _ => pts_nil) (fun _ _ _ _ _ => pe_f (ok_is_whole (K := K) T) hr passL (pa_cons (lv 1) (pa_cons pe_int (pa_cons (pe_g T.g_MOST_SPAN) pa_nil))))) pa_nil)))), ?_⟩
    obtain ⟨d, hd, wf, k⟩ := h
    refine ⟨_, isk_tup hd, ?_⟩
    cases hd with
    | @tup p xs ds hT ha =>
      refine .inl ⟨xs, .inr hT, ?_⟩
      have hl := dpa_len ha
      refine iteC (p := (10 : Int) < xs.length) (fun h1 => ?_) (fun h1 => ?_)
      · refine bQ.same wf (Same.refl _) ?_
        have e : arePausesD (.tuple ds) = false := by
          show (decide ((ds.length : Int) ≤ 10) && _) = _
          rw [decide_eq_false (by omega), Bool.false_and]
        rw [← e]
        exact k
      · refine ⟨p, rfl, ⟨xs, hT⟩, fun D nD => ?_⟩
        refine lc_map (walk_tup (K := K) (a := p) (xs := xs)) (fun i x => xs[i]? = some x) (fun i H x H' h => h) (fun i => .bl (isWholeB (xs.getD i .non) 0 1000000)) (line_lt (by omega)) (fun o => sqt_keep (fun u e => same_new nD _ _ e) hT) (fun i x acc C hi hx hC => ?_) ?_
        · have e : xs.getD i .non = x := by rw [List.getD_eq_getElem?_getD, hx]; rfl
          rw [e] at hC
          obtain ⟨d, _, hd⟩ := dpa_at ha hx
          exact ⟨rfl, 0, 1000000, rfl, rfl, kn_dp (dp_keep (fun _ _ e => same_new nD _ _ e) hd), wf.new trivial nD, hC⟩
        · refine ⟨xs.map fun x => isWholeB x 0 1000000, .inl (.inl ?_), ?_⟩
          · rw [upd_same, List.map_map, ← R.range_getD xs .non]
            rfl
          · refine bQ.same wf (same_new nD) ?_
            have e : arePausesD (.tuple ds) = (xs.map fun x => isWholeB x 0 1000000).all id := by
              show (decide ((ds.length : Int) ≤ 10) && ds.all fun d => isWholeD d 0 1000000) = _
              rw [decide_eq_true (by omega), Bool.true_and, all_whole ha, List.all_map]
              rfl
            rw [e] at k
            exact k
    | non => exact bQ.same wf (Same.refl _) k
    | bl _ => exact bQ.same wf (Same.refl _) k
    | int _ => exact bQ.same wf (Same.refl _) k
    | str _ => exact bQ.same wf (Same.refl _) k
    | lst _ _ => exact bQ.same wf (Same.refl _) k

abbrev s_is_rule : Stmt := topS 19
abbrev N_is_rule : List Str := ["thing", "order", "tries", "longest", "pauses", "most"]
theorem sc_is_rule : FnScope N_is_rule ["thing"] (defScope s_is_rule) := ⟨rfl, rfl, rfl, by decide +kernel, rfl, by decide +kernel, by decide +kernel⟩
def sp_is_rule (K : PySem.W.Frag) (c : Ad) : Sp := fun vs H Q E => arg1 (fun v => ∃ d, Dp K H v d ∧ Wf H ∧ Q (.bl (isRuleD d)) H) vs
theorem ok_is_rule {P : Program} {w : World} {K : PySem.W.Frag} {mg : Str → Option Value} {base : Heap} {c : Ad} (T : Txt K mg c) : Ok P w K mg base 3 "is_rule" ["thing"] (sp_is_rule K c) := by
  refine okF T.f_is_rule sc_is_rule (fun vs H Q E h => ?_) (fun f cdv A outer sh H vs Q E hr h => ?_)
  · obtain ⟨v, rfl, h⟩ := arg1.ex h
    rfl
  · obtain ⟨v, rfl, h⟩ := arg1.ex h
    have tk : Takes (cxOf (L2.CX P w) P w K mg base N_is_rule "is_rule" (defScope s_is_rule) f cdv A outer sh H (bE H E)) (fun cls d _ H' => bE H E cls d H') := takes_of rfl rfl rfl rfl
    obtain ⟨a_ORDERS, gt_ORDERS, st_ORDERS⟩ := T.t_ORDERS
    refine ⟨_, pss_cons (ps_if (PW.pt (pw_or (pt_not (pt_truthU (K := K) (pe_callB (callU_isi (K := K)) (by rfl) T.m_isinstance (by decide +kernel) (pa_cons (lv 0) (pa_cons (pe_ty "tuple" T.m_tuple) pa_nil))) (by intro _; rfl))) (pw_or1 (pt_cmpU (opU_ne (K := K) hr) (pe_callB (callU_len (K := K)) (by rfl) T.m_len (by decide +kernel) (pa_cons (lv 0) pa_nil)) pe_int (nomark _)))))
      (pss_one (ps_ret pe_bl)) pss_nil)
      (pss_cons (ps_asg (lv 0) (pg_tupK (K := K) (n := 5) rfl (pgs_cons (pg_name (i := 1) sc_is_rule.nd rfl (.inl rfl)) (pgs_cons (pg_name (i := 2) sc_is_rule.nd rfl (.inl rfl)) (pgs_cons (pg_name (i := 3) sc_is_rule.nd rfl (.inl rfl)) (pgs_cons (pg_name (i := 4) sc_is_rule.nd rfl (.inl rfl)) (pgs_cons (pg_name (i := 5) sc_is_rule.nd rfl (.inl rfl)) pgs_nil)))))))
      (pss_cons (ps_if (PW.pt (pw_or (pt_not (pt_truthU (K := K) (pe_callB (callU_isi (K := K)) (by rfl) T.m_isinstance (by decide +kernel) (pa_cons (lv 1) (pa_cons (pe_ty "str" T.m_str) pa_nil))) (by intro _; rfl))) (pw_or1 (pt_cmpU (opU_notin (K := K)) (lv 1) (pe_g gt_ORDERS) (by rfl)))))
      (pss_one (ps_ret pe_bl)) pss_nil)
      (pss_cons (ps_if (PW.pt (pw_or (pt_not (pt_truthU (K := K) (pe_f (ok_is_whole (K := K) T) (hr.mono (by decide)) passL (pa_cons (lv 2) (pa_cons pe_int (pa_cons (pe_g T.g_MOST_TRIES) pa_nil)))) (by intro _; rfl))) (pw_or1 (pt_not (pt_truthU (K := K) (pe_f (ok_is_whole (K := K) T) (hr.mono (by decide)) passL (pa_cons (lv 3) (pa_cons pe_int (pa_cons (pe_g T.g_MOST_SPAN) pa_nil)))) (by intro _; rfl))))))
      (pss_one (ps_ret pe_bl)) pss_nil)
      (pss_one (ps_ret (pe_andU (K := K) (pe_f (ok_are_pauses (K := K) T) hr passL (pa_cons (lv 4) pa_nil)) (pe_one (pe_f (ok_is_whole (K := K) T) (hr.mono (by decide)) passL (pa_cons (lv 5) (pa_cons pe_int (pa_cons (pe_g T.g_MOST_OUT) pa_nil))))))))))), ?_⟩
    obtain ⟨d, hd, wf, k⟩ := h
    refine ⟨_, isk_tup hd, ?_⟩
    cases hd with
    | @tup p xs ds hT ha =>
      refine .inl ⟨xs, .inr hT, ?_⟩
      have hl := dpa_len ha
      refine iteB (c := !decide (V.int xs.length = V.int 5)) (fun h1 => ?_) (fun h1 => ?_)
      · refine bQ.same wf (Same.refl _) ?_
        have e : isRuleD (.tuple ds) = false := rule_len fun e => nd_t h1 (by rw [hl, e]; rfl)
        rw [← e]
        exact k
      · have h5 : xs.length = 5 := by
          have := V.int.inj (nd_f h1)
          omega
        obtain ⟨x1, x2, x3, x4, x5, d1, d2, d3, d4, d5, rfl, rfl, g1, g2, g3, g4, g5⟩ := dpa5 ha h5
        refine ⟨p, _, rfl, hT, rfl, _, _, rfl, _, _, rfl, _, _, rfl, _, _, rfl, _, _, rfl, rfl, ?_⟩
        refine ⟨_, isk_str (kn_dp g1), ?_⟩
        cases g1 with
        | str z =>
          refine ⟨_, .inr (st_ORDERS _), rfl, rfl, ?_⟩
          have e00 : inV (.str z) [.str "put", .str "turns"] = isOrderD (.str z) := rfl
          rw [e00]
          refine iteB (c := !isOrderD (.str z)) (fun o => ?_) (fun o => ?_)
          · refine bQ.same wf (Same.refl _) ?_
            have e : isRuleD (.tuple [.str z, d2, d3, d4, d5]) = false := by
              show (isOrderD (.str z) && _ && _) = _
              rw [(by simpa using o : isOrderD (.str z) = false)]
              rfl
            rw [← e]
            exact k
          · have e0 : isOrderD (.str z) = true := by simpa using o
            refine ⟨1, 20, rfl, rfl, kn_dp g2, wf, ?_⟩
            rw [whole_dp g2]
            have e : isRuleD (.tuple [.str z, d2, d3, d4, d5]) = ((isWholeD d2 1 20 && isWholeD d3 1 1000000) && (arePausesD d4 && isWholeD d5 0 200)) := by
              show (isOrderD (.str z) && (isWholeD d2 1 20 && isWholeD d3 1 1000000) && _) = _
              rw [e0, Bool.true_and]
            rw [e] at k
            refine iteB (c := !isWholeD d2 1 20) (fun h2 => ?_) (fun h2 => ?_)
            · have h2' : isWholeD d2 1 20 = false := by simpa using h2
              rw [h2', Bool.false_and, Bool.false_and] at k
              exact bQ.same wf (Same.refl _) k
            · have h2' : isWholeD d2 1 20 = true := by simpa using h2
              rw [h2', Bool.true_and] at k
              refine ⟨1, 1000000, rfl, rfl, kn_dp g3, wf, ?_⟩
              rw [whole_dp g3]
              refine iteB (c := !isWholeD d3 1 1000000) (fun h3 => ?_) (fun h3 => ?_)
              · have h3' : isWholeD d3 1 1000000 = false := by simpa using h3
                rw [h3', Bool.false_and] at k
                exact bQ.same wf (Same.refl _) k
              · have h3' : isWholeD d3 1 1000000 = true := by simpa using h3
                rw [h3', Bool.true_and] at k
                refine ⟨d4, g4, wf, ?_⟩
                refine iteB (c := arePausesD d4) (fun h4 => ?_) (fun h4 => ?_)
                · rw [h4, Bool.true_and] at k
                  refine ⟨0, 200, rfl, rfl, kn_dp g5, wf, ?_⟩
                  rw [whole_dp g5]
                  exact bQ.same wf (Same.refl _) k
                · rw [h4, Bool.false_and] at k
                  rw [h4]
                  exact bQ.same wf (Same.refl _) k
        | non => exact bQ.same wf (Same.refl _) k
        | bl _ => exact bQ.same wf (Same.refl _) k
        | int _ => exact bQ.same wf (Same.refl _) k
        | lst _ _ => exact bQ.same wf (Same.refl _) k
        | tup _ _ => exact bQ.same wf (Same.refl _) k
    | non => exact bQ.same wf (Same.refl _) k
    | bl _ => exact bQ.same wf (Same.refl _) k
    | int _ => exact bQ.same wf (Same.refl _) k
    | str _ => exact bQ.same wf (Same.refl _) k
    | lst _ _ => exact bQ.same wf (Same.refl _) k

abbrev s_sure_rule : Stmt := topS 20
abbrev N_sure_rule : List Str := ["rule"]
theorem sc_sure_rule : FnScope N_sure_rule ["rule"] (defScope s_sure_rule) := ⟨rfl, rfl, rfl, by decide +kernel, rfl, by decide +kernel, by decide +kernel⟩
def sp_sure_rule (K : PySem.W.Frag) (c : Ad) : Sp := fun vs H Q E => arg1 (fun v => ∃ d, Dp K H v d ∧ Wf H ∧ (isRuleD d = true → Q .non H) ∧ (isRuleD d = false → E (.ref c.NoRule) none H)) vs
theorem ok_sure_rule {P : Program} {w : World} {K : PySem.W.Frag} {mg : Str → Option Value} {base : Heap} {c : Ad} (T : Txt K mg c) : Ok P w K mg base 4 "sure_rule" ["rule"] (sp_sure_rule K c) := by
  refine okF T.f_sure_rule sc_sure_rule (fun vs H Q E h => ?_) (fun f cdv A outer sh H vs Q E hr h => ?_)
  · obtain ⟨v, rfl, h⟩ := arg1.ex h
    rfl
  · obtain ⟨v, rfl, h⟩ := arg1.ex h
    have tk : Takes (cxOf (L2.CX P w) P w K mg base N_sure_rule "sure_rule" (defScope s_sure_rule) f cdv A outer sh H (bE H E)) (fun cls d _ H' => bE H E cls d H') := takes_of rfl rfl rfl rfl
    refine ⟨_, pss_one (ps_if (pt_not (pt_truthU (K := K) (pe_f (ok_is_rule (K := K) T) hr passL (pa_cons (lv 0) pa_nil)) (by intro _; rfl)))
      (pss_one (ps_rai T.x_NoRule tk)) pss_nil), ?_⟩
    obtain ⟨d, hd, wf, k, kE⟩ := h
    refine ⟨d, hd, wf, ?_⟩
    refine iteB (c := !isRuleD d) (fun g => ?_) (fun g => ?_)
    · exact bE.same wf (Same.refl _) (kE (by simpa using g))
    · exact bQ.same wf (Same.refl _) (k (by simpa using g))

abbrev figs : List Nat := ("0123456789" : Str).cps.toList
def figB (z : Str) : Bool := z.cps.toList.all fun c => decide (c ∈ figs)
/-- the number that a word tells -/
def wholeO (z : Str) : Option Int :=
  if decide (1 ≤ (z.length : Int)) && decide ((z.length : Int) ≤ 13) && figB z && !(decide (1 < (z.length : Int)) && Txt.startswith z "0") then PySem.intText? z else none
def optI : Option Int → V | none => .non | some n => .int n
theorem figs_digit {c : Nat} (h : c ∈ figs) : (decide (48 ≤ c) && decide (c ≤ 57)) = true := by
  have : ∀ c ∈ figs, (decide (48 ≤ c) && decide (c ≤ 57)) = true := by decide +kernel
  exact this c h
theorem int_figs {z : Str} (h : figB z = true) (h0 : 1 ≤ z.length) (h1 : z.length ≤ 13) : ∃ n, PySem.intText? z = some n := by
  have e : z = SX.S z.cps.toList := (SX.S_tl z).symm
  have hl : z.cps.toList.length = z.length := Array.length_toList
  refine ⟨((NumText.digitsVal z.cps.toList : Nat) : Int), ?_⟩
  rw [e]
  have := SX.int_S (a := z.cps.toList) (by
    rw [List.all_eq_true]
    intro c hc
    unfold figB at h
    rw [List.all_eq_true] at h
    exact figs_digit (of_decide_eq_true (h c hc))) (fun q => by rw [q] at hl; simp at hl; omega) (by omega)
  rw [this]

abbrev s_whole_of : Stmt := topS 10
abbrev N_whole_of : List Str := ["word", "sign"]
theorem sc_whole_of : FnScope N_whole_of ["word"] (defScope s_whole_of) := ⟨rfl, rfl, rfl, by decide +kernel, rfl, by decide +kernel, by decide +kernel⟩
def sp_whole_of (K : PySem.W.Frag) (c : Ad) : Sp := fun vs H Q E => arg1 (fun v => ∃ z, v = .str z ∧ z.length ≤ 1000000 ∧ Wf H ∧ Q (optI (wholeO z)) H) vs
theorem ok_whole_of {P : Program} {w : World} {K : PySem.W.Frag} {mg : Str → Option Value} {base : Heap} {c : Ad} (T : Txt K mg c) : Ok P w K mg base 1 "whole_of" ["word"] (sp_whole_of K c) := by
  refine okF T.f_whole_of sc_whole_of (fun vs H Q E h => ?_) (fun f cdv A outer sh H vs Q E hr h => ?_)
  · obtain ⟨v, rfl, h⟩ := arg1.ex h
    rfl
  · obtain ⟨v, rfl, h⟩ := arg1.ex h
    have tk : Takes (cxOf (L2.CX P w) P w K mg base N_whole_of "whole_of" (defScope s_whole_of) f cdv A outer sh H (bE H E)) (fun cls d _ H' => bE H E cls d H') := takes_of rfl rfl rfl rfl
    refine ⟨_, pss_cons (ps_if (PW.pt (pw_or (pt_not (pt_chainU opU_le opU_le pe_int (pe_callB (callU_len (K := K)) (by rfl) T.m_len (by decide +kernel) (pa_cons (lv 0) pa_nil)) (pe_g T.g_MOST_FIGURES))) (pw_or1 (pt_not (pt_truthU (K := K) (pe_callB (callU_all (K := K) rfl) (by rfl) T.m_all (by decide +kernel) (pa_cons (pe_lc (own := [("sign", 1)]) (g := gName 1) rfl sc_whole_of.nd (pi_str (lv 0)) (blkOk_by (own := [("sign", 1)]) (N := N_whole_of) (sc := defScope s_whole_of) (by decide +kernel)) (fun _ _ _ _ _ => pg_name (i := 1) sc_whole_of.nd rfl (.inl rfl)) (fun _ _ _ _ _ => pts_nil) (fun _ _ _ _ _ => pe_cmpR (opU_in (K := K)) (lv 1) (pe_g T.g_FIGURES) (by rfl))) pa_nil)) (by intro _; rfl))))))
      (pss_one (ps_ret pe_non)) pss_nil)
      (pss_cons (ps_if (PW.pt (pw_and (pt_cmpU opU_gt (pe_callB (callU_len (K := K)) (by rfl) T.m_len (by decide +kernel) (pa_cons (lv 0) pa_nil)) pe_int (nomark _)) (pw_and1 (pt_truthU (K := K) (pe_m1 PySem.F.slot_str_startswith PySem.F.type_str_startswith mt_startswith (lv 0) pe_str) (by intro _; rfl)))))
      (pss_one (ps_ret pe_non)) pss_nil)
      (pss_one (ps_ret (pe_callTy callU_int (by rfl) T.m_int (by decide +kernel) (pa_cons (lv 0) pa_nil))))), ?_⟩
    obtain ⟨z, rfl, hz, wf, k⟩ := h
    have lz : z.length ≤ sizeLine := line_of (Nat.le_trans hz (by decide))
    refine ⟨lz, ?_⟩
    have w0 : ∀ {b : Bool}, (decide (1 ≤ (z.length : Int)) && decide ((z.length : Int) ≤ 13) && figB z && !(decide (1 < (z.length : Int)) && Txt.startswith z "0")) = b → wholeO z = if b then PySem.intText? z else none := fun h => by
      unfold wholeO
      rw [h]
    refine iteC (p := 1 ≤ (z.length : Int)) (fun h1 => ?_) (fun h1 => ?_)
    · refine iteB (fun h2' => ?_) (fun h2' => ?_)
      · refine bQ.same wf (Same.refl _) ?_
        have e := w0 (b := false) (by rw [decide_eq_false (nd_t h2'), Bool.and_false, Bool.false_and, Bool.false_and])
        rw [e] at k
        exact k
      · have h2 := nd_f h2'
        refine ⟨z, rfl, fun D nD => ?_⟩
        refine lc_map (walk_str (z := z)) (fun i x => ∃ c, z.cps[i]? = some c ∧ x = .str ⟨#[c]⟩) (fun i H x H' h => h) (fun i => .bl (decide (z.cps.toList.getD i 0 ∈ figs))) (line_lt (Nat.lt_of_le_of_lt hz (by decide))) (fun _ => trivial) (fun i x acc C hi hx hC => ?_) ?_
        · obtain ⟨c, hc, rfl⟩ := hx
          have e : z.cps.toList.getD i 0 = c := by simp [hc]
          rw [e] at hC
          refine ⟨rfl, c, rfl, ?_⟩
          simpa using hC
        · refine ⟨(List.range z.cps.size).map fun i => decide (z.cps.toList.getD i 0 ∈ figs), .inl (.inl ?_), ?_⟩
          · rw [upd_same, List.map_map]
            rfl
          · have e : ((List.range z.cps.size).map fun i => decide (z.cps.toList.getD i 0 ∈ figs)) = z.cps.toList.map fun c => decide (c ∈ figs) := by
              rw [← R.range_getD z.cps.toList 0 fun c => decide (c ∈ figs)]
              rfl
            have e2 : (z.cps.toList.map fun c => decide (c ∈ figs)).all id = figB z := by
              rw [List.all_map]
              rfl
            rw [e]
            have sm := same_new (o := .lst (List.map (fun i => V.bl (decide (z.cps.toList.getD i 0 ∈ figs))) (List.range z.cps.size))) nD
            refine iteB (c := !((z.cps.toList.map fun c => decide (c ∈ figs)).all id)) (fun h3 => ?_) (fun h3 => ?_)
            · rw [e2] at h3
              refine bQ.same wf sm ?_
              have e := w0 (b := false) (by rw [not_b h3, Bool.and_false, Bool.false_and])
              rw [e] at k
              exact k
            · rw [e2] at h3
              have h4 : figB z = true := not_b' h3
              obtain ⟨n, hn⟩ := int_figs h4 (by omega) (by omega)
              refine ⟨lz, ?_⟩
              have fin : Txt.startswith z "0" = false ∨ ¬ (1 < (z.length : Int)) → bQ H Q (.int n) (upd H D (.lst (List.map (fun i => V.bl (decide (z.cps.toList.getD i 0 ∈ figs))) (List.range z.cps.size)))) := fun g => by
                have e := w0 (b := true) (by
                  rw [h4, decide_eq_true h1, decide_eq_true h2]
                  rcases g with g | g
                  · rw [g, Bool.and_false]
                    rfl
                  · rw [decide_eq_false g, Bool.false_and]
                    rfl)
                rw [e, if_pos rfl, hn] at k
                exact bQ.same wf sm k
              have hi : (z.length : Nat) ≤ 640 := by omega
              refine iteC (p := 1 < (z.length : Int)) (fun h5 => ?_) (fun h5 => ?_)
              · refine ⟨⟨_, rfl⟩, _, _, rfl, rfl, ?_⟩
                refine iteB (c := Txt.startswith z "0") (fun h6 => ?_) (fun h6 => ?_)
                · refine bQ.same wf sm ?_
                  have e := w0 (b := false) (by rw [h6, decide_eq_true h5, Bool.true_and, Bool.not_true, Bool.and_false])
                  rw [e] at k
                  exact k
                · exact ⟨n, hn, hi, fin (.inl h6)⟩
              · exact ⟨n, hn, hi, fin (.inr h5)⟩
    · refine bQ.same wf (Same.refl _) ?_
      have e := w0 (b := false) (by rw [decide_eq_false h1, Bool.false_and, Bool.false_and, Bool.false_and])
      rw [e] at k
      exact k

abbrev s_joined : Stmt := topS 11
abbrev N_joined : List Str := ["words", "between"]
theorem sc_joined : FnScope N_joined ["words", "between"] (defScope s_joined) := ⟨rfl, rfl, rfl, by decide +kernel, rfl, by decide +kernel, by decide +kernel⟩
def sp_joined (K : PySem.W.Frag) (c : Ad) : Sp := fun vs H Q E => arg2 (fun v u => ∃ p ws b, v = .ref p ∧ u = .str b ∧ SqL K H p (ws.map V.str) ∧ (∀ z ∈ ws, sOk z ∧ z.length ≤ 1000) ∧ ws.length ≤ 1000 ∧ b.length ≤ 10 ∧ Wf H ∧ Q (.str (if ws = [] then "-" else Txt.join b ws)) H) vs
theorem ok_joined {P : Program} {w : World} {K : PySem.W.Frag} {mg : Str → Option Value} {base : Heap} {c : Ad} (T : Txt K mg c) : Ok P w K mg base 1 "joined" ["words", "between"] (sp_joined K c) := by
  refine okF T.f_joined sc_joined (fun vs H Q E h => ?_) (fun f cdv A outer sh H vs Q E hr h => ?_)
  · obtain ⟨v, u, rfl, h⟩ := arg2.ex h
    rfl
  · obtain ⟨v, u, rfl, h⟩ := arg2.ex h
    have tk : Takes (cxOf (L2.CX P w) P w K mg base N_joined "joined" (defScope s_joined) f cdv A outer sh H (bE H E)) (fun cls d _ H' => bE H E cls d H') := takes_of rfl rfl rfl rfl
    refine ⟨_, pss_cons (ps_if (pt_cmpU (opU_eq (K := K) hr) (lv 0) (pe_lst pa_nil) (nomark _))
      (pss_one (ps_ret pe_str)) pss_nil)
      (pss_one (ps_ret (pe_join (lv 1) (lv 0)))), ?_⟩
    obtain ⟨p, ws, b, rfl, rfl, hp, hw, hl, hb, wf, k⟩ := h
    refine ⟨line_of (show 0 ≤ 16777216 by decide), fun e ne => ?_⟩
    have sm := same_new (o := .lst []) ne
    refine ⟨.list (ws.map .str), .list [], .lst (sm.seq hp) (dp_strs ws), .lst (.inl (.inl upd_same)) .nil, shape_strs fun z hz => (hw z hz).1, rfl, ?_⟩
    have ew : PyData.eqv (.list (ws.map PyData.str)) (.list []) = ws.isEmpty := by cases ws <;> rfl
    refine iteB (c := PyData.eqv (.list (ws.map PyData.str)) (.list [])) (fun h1 => ?_) (fun h1 => ?_)
    · rw [ew, List.isEmpty_iff] at h1
      rw [if_pos h1] at k
      exact bQ.same wf sm k
    · have hn : ws ≠ [] := fun q => by
        rw [ew, q] at h1
        cases h1
      rw [if_neg hn] at k
      refine ⟨⟨_, rfl⟩, _, _, ws, rfl, rfl, .inl (sm.seq hp), ?_, ?_⟩
      · have h2 : (ws.map (·.length)).sum ≤ ws.length * 1000 := by
          clear hp hn k ew h1 hl
          induction ws with
          | nil => exact Nat.zero_le _
          | cons z r ih =>
            rw [List.map_cons, List.sum_cons, List.length_cons]
            have := (hw z List.mem_cons_self).2
            have := ih fun x hx => hw x (List.mem_cons_of_mem _ hx)
            omega
        have h3 : ws.length * b.length ≤ 1000 * 10 := Nat.mul_le_mul hl hb
        omega
      · exact bQ.same wf sm k

def ruleD (o : Str) (t l : Int) (ps : List Int) (m : Int) : PyData := .tuple [.str o, .int t, .int l, .tuple (ps.map .int), .int m]
def RuleOk (o : Str) (t l : Int) (ps : List Int) (m : Int) : Prop := (o = "put" ∨ o = "turns") ∧ (1 ≤ t ∧ t ≤ 20) ∧ (1 ≤ l ∧ l ≤ 1000000) ∧ (ps.length ≤ 10 ∧ ∀ p ∈ ps, 0 ≤ p ∧ p ≤ 1000000) ∧ 0 ≤ m ∧ m ≤ 200
theorem rule_ok {o : Str} {t l : Int} {ps : List Int} {m : Int} (h : RuleOk o t l ps m) : isRuleD (ruleD o t l ps m) = true := by
  obtain ⟨ho, ⟨h1, h2⟩, ⟨h3, h4⟩, ⟨h5, h6⟩, h7, h8⟩ := h
  have e1 : isOrderD (.str o) = true := by
    rcases ho with rfl | rfl <;> decide +kernel
  have w : ∀ {n a b : Int}, a ≤ n → n ≤ b → isWholeD (.int n) a b = true := fun {n a b} x y => by
    show (decide (a ≤ n) && decide (n ≤ b)) = true
    rw [decide_eq_true x, decide_eq_true y]
    rfl
  have e2 : arePausesD (.tuple (ps.map .int)) = true := by
    show (decide (((ps.map PyData.int).length : Int) ≤ 10) && _) = true
    rw [decide_eq_true (by rw [List.length_map]; omega), Bool.true_and, List.all_map, List.all_eq_true]
    intro p hp
    exact w (h6 p hp).1 (h6 p hp).2
  show (isOrderD (.str o) && (isWholeD (.int t) 1 20 && isWholeD (.int l) 1 1000000) && (arePausesD (.tuple (ps.map .int)) && isWholeD (.int m) 0 200)) = true
  rw [e1, w h1 h2, w h3 h4, e2, w h7 h8]
  rfl
def pauseB (ps : List Int) (n : Int) : Int := if ps = [] then 0 else ps.getD ((if (ps.length : Int) < n then (ps.length : Int) else n) - 1).toNat 0
theorem shape_ints (zs : List Int) : SeqAt.shaped (.tuple (zs.map .int)) = true := by
  have h1 : PyData.canLayAll0 (zs.map .int) = true := by
    induction zs with
    | nil => rfl
    | cons z r ih =>
      show (true && PyData.canLayAll0 (r.map .int)) = true
      rw [ih]
      rfl
  have h2 : PyData.depthAll (zs.map .int) = 0 := by
    clear h1
    induction zs with
    | nil => rfl
    | cons z r ih =>
      show max 0 (PyData.depthAll (r.map .int)) = 0
      rw [ih]
      rfl
  unfold SeqAt.shaped
  show (PyData.canLayAll0 (zs.map .int) && decide (PyData.depthAll (zs.map .int) + 1 ≤ 64)) = true
  rw [h1, h2]
  rfl
theorem dpa_ints {K : PySem.W.Frag} {H : Hp} : ∀ {xs : List V} {ns : List Int}, DpAll K H xs (ns.map .int) → xs = ns.map V.int
  | [], [], _ => rfl
  | [], n :: r, h => by cases h
  | x :: xs, [], h => by cases h
  | x :: xs, n :: r, h => by
    cases h with
    | cons g h =>
      cases g
      rw [dpa_ints h]
      rfl
theorem rule_at {K : PySem.W.Frag} {H : Hp} {v : V} {o : Str} {t l : Int} {ps : List Int} {m : Int} (h : Dp K H v (ruleD o t l ps m)) : ∃ p q, v = .ref p ∧ SqT K H p [.str o, .int t, .int l, .ref q, .int m] ∧ SqT K H q (ps.map V.int) := by
  cases h with
  | @tup p xs ds hT ha =>
    obtain ⟨x1, x2, x3, x4, x5, d1, d2, d3, d4, d5, rfl, e, g1, g2, g3, g4, g5⟩ := dpa5 ha (dpa_len ha)
    cases e
    cases g1
    cases g2
    cases g3
    cases g5
    cases g4 with
    | @tup q ys es hq hb =>
      have := dpa_ints hb
      subst this
      exact ⟨p, q, rfl, hT, hq⟩
theorem eqv_nil (ps : List Int) : PyData.eqv (.tuple (ps.map .int)) (.tuple []) = ps.isEmpty := by cases ps <;> rfl

/-- a number as it is told -/
abbrev numT (n : Int) : Str := PySem.Str.ofString (toString n)
theorem num_nat {n : Int} (h : 0 ≤ n) : numT n = SX.S (TL.numL n.toNat) := by
  obtain ⟨j, rfl⟩ : ∃ j : Nat, n = j := ⟨n.toNat, by omega⟩
  exact SX.num_S j
def joinT (ws : List Str) (b : Str) : Str := if ws = [] then "-" else Txt.join b ws
/-- a rule's text -/
def ruleT (o : Str) (t l : Int) (ps : List Int) (m : Int) : Str := Txt.join " " [o, numT t, numT l, joinT (ps.map numT) ",", numT m]
theorem num_ok {n : Int} (h : 0 ≤ n) (h2 : n ≤ 1000000) : sOk (numT n) ∧ (numT n).length ≤ 7 ∧ n.natAbs.log2 < 1920 := by
  rw [num_nat h]
  refine ⟨sOk_list fun c hc => ?_, ?_, ?_⟩
  · have := TL.numL_digits n.toNat c hc
    omega
  · rw [SX.S_len]
    exact TL.numL_len (by decide) (by omega)
  · have e : n.natAbs < 2 ^ 20 := by omega
    exact Nat.lt_trans (PySem.Flt.log2_lt_of (by decide) e) (by decide)
theorem sum_le {ws : List Str} {n : Nat} (h : ∀ z ∈ ws, z.length ≤ n) : (ws.map (·.length)).sum ≤ ws.length * n := by
  induction ws with
  | nil => exact Nat.zero_le _
  | cons z r ih =>
    rw [List.map_cons, List.sum_cons, List.length_cons]
    have := h z List.mem_cons_self
    have := ih fun x hx => h x (List.mem_cons_of_mem _ hx)
    rw [Nat.succ_mul]
    omega
theorem joinT_len {ws : List Str} {b : Str} (h : ∀ z ∈ ws, z.length ≤ 7) (hl : ws.length ≤ 10) (hb : b.length ≤ 1) : (joinT ws b).length ≤ 80 := by
  unfold joinT
  split
  · decide
  · have h1 : (Txt.join b ws).length ≤ (ws.map (·.length)).sum + ws.length * b.length := by
      rw [show Txt.join b ws = PySem.Str.join b ws from StrLaws.glued_eq_join ..]
      exact StrLaws.join_length_le b ws
    have h2 := sum_le h
    have h3 : ws.length * b.length ≤ 10 * 1 := Nat.mul_le_mul hl hb
    omega

abbrev s_rule_text : Stmt := topS 21
abbrev N_rule_text : List Str := ["rule", "order", "tries", "longest", "pauses", "most", "pause"]
theorem sc_rule_text : FnScope N_rule_text ["rule"] (defScope s_rule_text) := ⟨rfl, rfl, rfl, by decide +kernel, rfl, by decide +kernel, by decide +kernel⟩
def sp_rule_text (K : PySem.W.Frag) (c : Ad) : Sp := fun vs H Q E => arg1 (fun v => ∃ o t l ps m, Dp K H v (ruleD o t l ps m) ∧ RuleOk o t l ps m ∧ Wf H ∧ Q (.str (ruleT o t l ps m)) H) vs
theorem ok_rule_text {P : Program} {w : World} {K : PySem.W.Frag} {mg : Str → Option Value} {base : Heap} {c : Ad} (T : Txt K mg c) : Ok P w K mg base 5 "rule_text" ["rule"] (sp_rule_text K c) := by
  refine okF T.f_rule_text sc_rule_text (fun vs H Q E h => ?_) (fun f cdv A outer sh H vs Q E hr h => ?_)
  · obtain ⟨v, rfl, h⟩ := arg1.ex h
    rfl
  · obtain ⟨v, rfl, h⟩ := arg1.ex h
    have tk : Takes (cxOf (L2.CX P w) P w K mg base N_rule_text "rule_text" (defScope s_rule_text) f cdv A outer sh H (bE H E)) (fun cls d _ H' => bE H E cls d H') := takes_of rfl rfl rfl rfl
    refine ⟨_, pss_cons (ps_expr (pe_fS (ok_sure_rule (K := K) T) hr tk (pa_cons (lv 0) pa_nil)))
      (pss_cons (ps_asg (lv 0) (pg_tupK (K := K) (n := 5) rfl (pgs_cons (pg_name (i := 1) sc_rule_text.nd rfl (.inl rfl)) (pgs_cons (pg_name (i := 2) sc_rule_text.nd rfl (.inl rfl)) (pgs_cons (pg_name (i := 3) sc_rule_text.nd rfl (.inl rfl)) (pgs_cons (pg_name (i := 4) sc_rule_text.nd rfl (.inl rfl)) (pgs_cons (pg_name (i := 5) sc_rule_text.nd rfl (.inl rfl)) pgs_nil)))))))
      (pss_one (ps_ret (pe_join pe_str (pe_lst (pa_cons (lv 1) (pa_cons (pe_callTy callU_str (by rfl) T.m_str (by decide +kernel) (pa_cons (lv 2) pa_nil)) (pa_cons (pe_callTy callU_str (by rfl) T.m_str (by decide +kernel) (pa_cons (lv 3) pa_nil)) (pa_cons (pe_f (ok_joined (K := K) T) (hr.mono (by decide)) passL (pa_cons (pe_lc (own := [("pause", 6)]) (g := gName 6) rfl sc_rule_text.nd (pi_tupK (K := K) (lv 4)) (blkOk_by (own := [("pause", 6)]) (N := N_rule_text) (sc := defScope s_rule_text) (by decide +kernel)) (fun _ _ _ _ _ => pg_name (i := 6) sc_rule_text.nd rfl (.inl rfl)) (fun _ _ _ _ _ => pts_nil) (fun _ _ _ _ _ => pe_callTy callU_str (by rfl) T.m_str (by decide +kernel) (pa_cons (lv 6) pa_nil))) (pa_cons pe_str pa_nil))) (pa_cons (pe_callTy callU_str (by rfl) T.m_str (by decide +kernel) (pa_cons (lv 5) pa_nil)) pa_nil)))))))))), ?_⟩
    obtain ⟨o, t, l, ps, m, hd, ok, wf, k⟩ := h
    refine ⟨_, hd, wf, fun _ => ?_, fun z => absurd (rule_ok ok) (by rw [z]; exact Bool.false_ne_true)⟩
    obtain ⟨p, q, rfl, hT, hq⟩ := rule_at hd
    refine ⟨p, _, rfl, hT, rfl, _, _, rfl, _, _, rfl, _, _, rfl, _, _, rfl, _, _, rfl, rfl, ?_⟩
    obtain ⟨ho, ht, hl, ⟨hp1, hp2⟩, hm⟩ := ok
    refine ⟨⟨_, rfl⟩, (num_ok (by omega) (by omega)).2.2, (num_ok (by omega) (by omega)).2.2, ?_⟩
    refine ⟨q, rfl, ⟨_, hq⟩, fun D nD => ?_⟩
    have hD : ∀ o, Same H (upd H D o) := fun o => same_new nD
    refine lc_map (walk_tup (K := K) (a := q) (xs := ps.map V.int)) (fun i x => (ps.map V.int)[i]? = some x) (fun i H x H' h => h) (fun i => .str (numT (ps.getD i 0))) (line_lt (by rw [List.length_map]; omega)) (fun o => sqt_keep (fun u z => hD o _ _ z) hq) (fun i x acc C hi hx hC => ?_) ?_
    · rw [List.getElem?_map] at hx
      have hi2 : i < ps.length := by rwa [List.length_map] at hi
      rw [List.getElem?_eq_getElem hi2] at hx
      cases hx
      have e : ps.getD i 0 = ps[i] := by
        rw [List.getD_eq_getElem?_getD, List.getElem?_eq_getElem hi2]
        rfl
      rw [e] at hC
      have := hp2 ps[i] (List.getElem_mem hi2)
      exact ⟨rfl, (num_ok (by omega) (by omega)).2.2, hC⟩
    · have ep : (List.range (ps.map V.int).length).map (fun i => V.str (numT (ps.getD i 0))) = (ps.map numT).map V.str := by
        rw [List.length_map, R.range_getD ps 0 fun n => V.str (numT n), List.map_map]
        rfl
      rw [ep]
      have wD := wf.new (o := .lst ((ps.map numT).map V.str)) trivial nD
      refine ⟨D, ps.map numT, _, rfl, rfl, .inl (.inl upd_same), fun z hz => ?_, by rw [List.length_map]; omega, by decide +kernel, wD, ?_⟩
      · obtain ⟨n, hn, rfl⟩ := List.mem_map.mp hz
        have := hp2 n hn
        have := num_ok (n := n) (by omega) (by omega)
        exact ⟨this.1, by omega⟩
      · refine ⟨(num_ok (by omega) (by omega)).2.2, ?_⟩
        have hj : (joinT (ps.map numT) ",").length ≤ 80 := joinT_len (fun z hz => by
          obtain ⟨n, hn, rfl⟩ := List.mem_map.mp hz
          have := hp2 n hn
          exact (num_ok (n := n) (by omega) (by omega)).2.1) (by rw [List.length_map]; omega) (by decide +kernel)
        have hol : o.length ≤ 5 := by rcases ho with rfl | rfl <;> decide +kernel
        have n1 := (num_ok (n := t) (by omega) (by omega)).2.1
        have n2 := (num_ok (n := l) (by omega) (by omega)).2.1
        have n3 := (num_ok (n := m) (by omega) (by omega)).2.1
        refine ⟨line_of (show 5 ≤ 16777216 by decide), fun y ny => ?_⟩
        refine ⟨_, y, [o, numT t, numT l, joinT (ps.map numT) ",", numT m], rfl, rfl, .inl (.inl (.inl upd_same)), ?_, ?_⟩
        · have e : (([o, numT t, numT l, joinT (ps.map numT) ",", numT m] : List Str).map (·.length)).sum = o.length + ((numT t).length + ((numT l).length + ((joinT (ps.map numT) ",").length + ((numT m).length + 0)))) := rfl
          rw [e]
          have e2 : (PySem.Str.ofString " ").length = 1 := by decide +kernel
          show _ + 5 * (PySem.Str.ofString " ").length ≤ 16777216
          rw [e2]
          omega
        · exact bQ.same wf ((hD _).trans (same_new ny)) k

theorem pre1 (c x : Nat) (r : List Nat) : TL.pre [c] (x :: r) = (x == c) := by
  unfold TL.pre
  simp
  try exact Bool.beq_comm
theorem spl_parts {c : Nat} : ∀ (l acc : List Nat), (∀ p ∈ TL.spl [c] 0 acc l, p.length ≤ acc.length + l.length) ∧ (TL.spl [c] 0 acc l).length ≤ l.length + 1
  | [], acc => by
    rw [TL.spl_nil]
    simp
  | x :: r, acc => by
    cases h : TL.pre [c] (x :: r) with
    | true =>
      rw [TL.spl_hit h]
      have := spl_parts (c := c) r []
      refine ⟨fun p hp => ?_, ?_⟩
      · rcases List.mem_cons.mp hp with rfl | hp
        · omega
        · have := this.1 p hp
          simp only [List.length_cons, List.length_nil] at this ⊢
          omega
      · have := this.2
        simp only [List.length_cons] at this ⊢
        exact Nat.succ_le_succ this
    | false =>
      rw [TL.spl_miss h]
      have := spl_parts (c := c) r (acc ++ [x])
      refine ⟨fun p hp => ?_, ?_⟩
      · have := this.1 p hp
        simp only [List.length_append, List.length_cons, List.length_nil] at this ⊢
        omega
      · have := this.2
        simp only [List.length_cons] at this ⊢
        omega
/-- the words of a text, parted by one sign -/
theorem split_parts {z : Str} {c : Nat} (hc : c < 256) : (∀ p ∈ Txt.split z (SX.S [c]), p.length ≤ z.length) ∧ (Txt.split z (SX.S [c])).length ≤ z.length + 1 := by
  have e : Txt.split z (SX.S [c]) = (TL.spl [c] 0 [] z.cps.toList).map SX.S := by
    have := SX.split_S (a := z.cps.toList) (b := [c]) (by simp) (by simpa using hc)
    rw [SX.S_tl] at this
    exact this
  have hl : z.cps.toList.length = z.length := Array.length_toList
  have := spl_parts (c := c) z.cps.toList []
  rw [e]
  refine ⟨fun p hp => ?_, ?_⟩
  · obtain ⟨q, hq, rfl⟩ := List.mem_map.mp hp
    have := this.1 q hq
    rw [SX.S_len]
    simp only [List.length_nil] at this
    omega
  · rw [List.length_map]
    omega

def optID : Option Int → PyData | none => .none | some n => .int n
theorem opti_dp {K : PySem.W.Frag} {H : Hp} : ∀ o : Option Int, Dp K H (optI o) (optID o)
  | none => .non
  | some n => .int n
abbrev comma : Str := SX.S [44]
abbrev blank : Str := SX.S [32]
def pausesD (z : Str) : PyData := if z = "-" then .tuple [] else .tuple ((Txt.split z comma).map fun w => optID (wholeO w))
theorem optis_dp {K : PySem.W.Frag} {H : Hp} : ∀ ws : List Str, DpAll K H (ws.map fun w => optI (wholeO w)) (ws.map fun w => optID (wholeO w))
  | [] => .nil
  | w :: r => .cons (opti_dp _) (optis_dp r)

abbrev s_pauses_of : Stmt := topS 22
abbrev N_pauses_of : List Str := ["word", "part"]
theorem sc_pauses_of : FnScope N_pauses_of ["word"] (defScope s_pauses_of) := ⟨rfl, rfl, rfl, by decide +kernel, rfl, by decide +kernel, by decide +kernel⟩
def sp_pauses_of (K : PySem.W.Frag) (c : Ad) : Sp := fun vs H Q E => arg1 (fun v => ∃ z, v = .str z ∧ z.length ≤ 100000 ∧ Wf H ∧ ∀ v H', Dp K H' v (pausesD z) → Same H H' → Wf H' → Q v H') vs
theorem ok_pauses_of {P : Program} {w : World} {K : PySem.W.Frag} {mg : Str → Option Value} {base : Heap} {c : Ad} (T : Txt K mg c) : Ok P w K mg base 2 "pauses_of" ["word"] (sp_pauses_of K c) := by
  refine okF T.f_pauses_of sc_pauses_of (fun vs H Q E h => ?_) (fun f cdv A outer sh H vs Q E hr h => ?_)
  · obtain ⟨v, rfl, h⟩ := arg1.ex h
    rfl
  · obtain ⟨v, rfl, h⟩ := arg1.ex h
    have tk : Takes (cxOf (L2.CX P w) P w K mg base N_pauses_of "pauses_of" (defScope s_pauses_of) f cdv A outer sh H (bE H E)) (fun cls d _ H' => bE H E cls d H') := takes_of rfl rfl rfl rfl
    refine ⟨_, pss_cons (ps_if (pt_cmpU (opU_eq (K := K) hr) (lv 0) pe_str (nomark _))
      (pss_one (ps_ret (pe_tup pa_nil))) pss_nil)
      (pss_one (ps_ret (pe_callTy (callU_tuple (K := K)) (by rfl) T.m_tuple (by decide +kernel) (pa_cons (pe_lc (own := [("part", 1)]) (g := gName 1) rfl sc_pauses_of.nd (pi_listK (K := K) (pe_split (lv 0) pe_str)) (blkOk_by (own := [("part", 1)]) (N := N_pauses_of) (sc := defScope s_pauses_of) (by decide +kernel)) (fun _ _ _ _ _ => pg_name (i := 1) sc_pauses_of.nd rfl (.inl rfl)) (fun _ _ _ _ _ => pts_nil) (fun _ _ _ _ _ => pe_f (ok_whole_of (K := K) T) hr passL (pa_cons (lv 1) pa_nil))) pa_nil)))), ?_⟩
    obtain ⟨z, rfl, hz, wf, k⟩ := h
    refine iteC (p := V.str z = V.str "-") (fun h1 => ?_) (fun h1 => ?_)
    · cases h1
      refine ⟨line_of (show 0 ≤ 16777216 by decide), fun p np => ?_⟩
      have w1 := wf.new (o := .tup []) trivial np
      exact bQ.mk w1 (k _ _ (.tup (.inl (.inl upd_same)) .nil) (same_new np) w1)
    · have hn : ¬ z = "-" := fun e => h1 (by rw [e])
      have e1 : pausesD z = .tuple ((Txt.split z comma).map fun w => optID (wholeO w)) := if_neg hn
      have hs := split_parts (z := z) (c := 44) (by decide)
      refine ⟨⟨_, rfl⟩, _, _, rfl, rfl, rfl, line_of (by omega), fun p np => ?_⟩
      have sm1 := same_new (o := .lst ((Txt.split z comma).map V.str)) np
      have ep : (upd H p (.lst ((Txt.split z comma).map V.str))) p = some (.lst ((Txt.split z comma).map V.str)) := upd_same
      have w1 := wf.new (o := .lst ((Txt.split z comma).map V.str)) trivial np
      generalize hws : Txt.split z comma = ws at sm1 ep w1 e1 hs
      have hg : upd H p (.lst ((Txt.split z (PySem.Str.ofString ",")).map V.str)) = upd H p (.lst (ws.map V.str)) := by rw [← hws]; rfl
      rw [hg]
      generalize upd H p (.lst (ws.map V.str)) = H1 at sm1 ep w1 ⊢
      refine ⟨p, rfl, ⟨_, .inl (.inl ep)⟩, fun D nD => ?_⟩
      have hD : ∀ o, Same H1 (upd H1 D o) := fun o => same_new nD
      refine lc_map (walk_list (K := K) (a := p) (xs := ws.map V.str)) (fun i x => (ws.map V.str)[i]? = some x) (fun i H x H' h => h) (fun i => optI (wholeO (ws.getD i "")))  (line_lt (by rw [List.length_map]; omega)) (fun o => .inl (.inl (hD o _ _ ep))) (fun i x acc C hi hx hC => ?_) ?_
      · rw [List.getElem?_map] at hx
        have hi2 : i < ws.length := by rwa [List.length_map] at hi
        rw [List.getElem?_eq_getElem hi2] at hx
        cases hx
        have e : ws.getD i "" = ws[i] := by
          rw [List.getD_eq_getElem?_getD, List.getElem?_eq_getElem hi2]
          rfl
        rw [e] at hC
        have := hs.1 ws[i] (List.getElem_mem hi2)
        exact ⟨rfl, _, rfl, by omega, w1.new trivial nD, hC⟩
      · have e2 : (List.range (ws.map V.str).length).map (fun i => optI (wholeO (ws.getD i ""))) = ws.map fun w => optI (wholeO w) := by
          rw [List.length_map, R.range_getD ws "" fun w => optI (wholeO w)]
        rw [e2]
        refine ⟨_, .inl ⟨.inl (.inl upd_same), fun t nt => ?_⟩⟩
        have w2 := (w1.new (o := .lst (ws.map fun w => optI (wholeO w))) trivial nD).new (o := .tup (ws.map fun w => optI (wholeO w))) trivial nt
        refine bQ.mk w2 (k _ _ ?_ (sm1.trans ((hD _).trans (same_new nt))) w2)
        rw [e1]
        exact .tup (.inl (.inl upd_same)) (optis_dp ws)

/-- the rule that five words tell -/
def ruleOfD : List Str → Option PyData
  | [a, b, c, d, e] => if isRuleD (.tuple [.str a, optID (wholeO b), optID (wholeO c), pausesD d, optID (wholeO e)]) then some (.tuple [.str a, optID (wholeO b), optID (wholeO c), pausesD d, optID (wholeO e)]) else none
  | _ => none
theorem rof_len {ws : List Str} (h : ws.length ≠ 5) : ruleOfD ws = none := by
  match ws, h with
  | [], _ => rfl
  | [_], _ => rfl
  | [_, _], _ => rfl
  | [_, _, _], _ => rfl
  | [_, _, _, _], _ => rfl
  | [_, _, _, _, _], h => exact absurd rfl h
  | _ :: _ :: _ :: _ :: _ :: _ :: _, _ => rfl
theorem five {ws : List Str} (h : ws.length = 5) : ∃ a b c d e, ws = [a, b, c, d, e] := by
  match ws, h with
  | [a, b, c, d, e], _ => exact ⟨a, b, c, d, e, rfl⟩

abbrev s_rule_of : Stmt := topS 23
abbrev N_rule_of : List Str := ["words", "rule"]
theorem sc_rule_of : FnScope N_rule_of ["words"] (defScope s_rule_of) := ⟨rfl, rfl, rfl, by decide +kernel, rfl, by decide +kernel, by decide +kernel⟩
def sp_rule_of (K : PySem.W.Frag) (c : Ad) : Sp := fun vs H Q E => arg1 (fun v => ∃ p ws, v = .ref p ∧ SqL K H p (ws.map V.str) ∧ (∀ w ∈ ws, w.length ≤ 100000) ∧ Wf H ∧ (ruleOfD ws = none → Q .non H) ∧ ∀ d q H', ruleOfD ws = some d → Dp K H' (.ref q) d → Same H H' → Wf H' → Q (.ref q) H') vs
theorem ok_rule_of {P : Program} {w : World} {K : PySem.W.Frag} {mg : Str → Option Value} {base : Heap} {c : Ad} (T : Txt K mg c) : Ok P w K mg base 4 "rule_of" ["words"] (sp_rule_of K c) := by
  refine okF T.f_rule_of sc_rule_of (fun vs H Q E h => ?_) (fun f cdv A outer sh H vs Q E hr h => ?_)
  · obtain ⟨v, rfl, h⟩ := arg1.ex h
    rfl
  · obtain ⟨v, rfl, h⟩ := arg1.ex h
    have tk : Takes (cxOf (L2.CX P w) P w K mg base N_rule_of "rule_of" (defScope s_rule_of) f cdv A outer sh H (bE H E)) (fun cls d _ H' => bE H E cls d H') := takes_of rfl rfl rfl rfl
    refine ⟨_, pss_cons (ps_if (pt_cmpU (opU_ne (K := K) hr) (pe_callB (callU_len (K := K)) (by rfl) T.m_len (by decide +kernel) (pa_cons (lv 0) pa_nil)) pe_int (nomark _))
      (pss_one (ps_ret pe_non)) pss_nil)
      (pss_cons (ps_set (i := 1) sc_rule_of.nd rfl (.inl rfl) (pe_tup (pa_cons (pe_ix (ixU (K := K)) (lv 0) pe_int (fun _ _ => rfl)) (pa_cons (pe_f (ok_whole_of (K := K) T) (hr.mono (by decide)) passL (pa_cons (pe_ix (ixU (K := K)) (lv 0) pe_int (fun _ _ => rfl)) pa_nil)) (pa_cons (pe_f (ok_whole_of (K := K) T) (hr.mono (by decide)) passL (pa_cons (pe_ix (ixU (K := K)) (lv 0) pe_int (fun _ _ => rfl)) pa_nil)) (pa_cons (pe_f (ok_pauses_of (K := K) T) (hr.mono (by decide)) passL (pa_cons (pe_ix (ixU (K := K)) (lv 0) pe_int (fun _ _ => rfl)) pa_nil)) (pa_cons (pe_f (ok_whole_of (K := K) T) (hr.mono (by decide)) passL (pa_cons (pe_ix (ixU (K := K)) (lv 0) pe_int (fun _ _ => rfl)) pa_nil)) pa_nil)))))))
      (pss_cons (ps_if (pt_not (pt_truthU (K := K) (pe_f (ok_is_rule (K := K) T) hr passL (pa_cons (lv 1) pa_nil)) (by intro _; rfl)))
      (pss_one (ps_ret pe_non)) pss_nil)
      (pss_one (ps_ret (lv 1))))), ?_⟩
    obtain ⟨p, ws, rfl, hp, hw, wf, k0, k1⟩ := h
    refine .inl ⟨_, .inl hp, ?_⟩
    refine iteB (c := !decide (V.int (ws.map V.str).length = V.int 5)) (fun h1 => ?_) (fun h1 => ?_)
    · exact bQ.same wf (Same.refl _) (k0 (rof_len fun e => nd_t h1 (by rw [List.length_map, e]; rfl)))
    · have h5 : ws.length = 5 := by
        have := V.int.inj (nd_f h1)
        rw [List.length_map] at this
        omega
      obtain ⟨a, b, c', d, e, rfl⟩ := five h5
      refine ⟨_, _, .inl hp, rfl, ?_⟩
      refine ⟨_, _, .inl hp, rfl, b, rfl, Nat.le_trans (hw b (by simp)) (by decide), wf, ?_⟩
      refine ⟨_, _, .inl hp, rfl, c', rfl, Nat.le_trans (hw c' (by simp)) (by decide), wf, ?_⟩
      refine ⟨_, _, .inl hp, rfl, d, rfl, hw d (by simp), wf, fun v H1 dv sm1 w1 => ?_⟩
      refine ⟨_, _, .inl (sm1.seq hp), rfl, e, rfl, Nat.le_trans (hw e (by simp)) (by decide), w1, ?_⟩
      refine ⟨line_of (show 5 ≤ 16777216 by decide), fun t nt => ?_⟩
      have sm2 := same_new (o := .tup [.str a, optI (wholeO b), optI (wholeO c'), v, optI (wholeO e)]) nt
      have w2 := w1.new (o := .tup [.str a, optI (wholeO b), optI (wholeO c'), v, optI (wholeO e)]) trivial nt
      have et : (upd H1 t (.tup [.str a, optI (wholeO b), optI (wholeO c'), v, optI (wholeO e)])) t = some (.tup [.str a, optI (wholeO b), optI (wholeO c'), v, optI (wholeO e)]) := upd_same
      have dv2 := dp_keep sm2 dv
      generalize upd H1 t (.tup [.str a, optI (wholeO b), optI (wholeO c'), v, optI (wholeO e)]) = H2 at sm2 w2 et dv2 ⊢
      have dd : Dp K H2 (.ref t) (.tuple [.str a, optID (wholeO b), optID (wholeO c'), pausesD d, optID (wholeO e)]) := .tup (.inl (.inl et)) (.cons (.str _) (.cons (opti_dp _) (.cons (opti_dp _) (.cons dv2 (.cons (opti_dp _) .nil)))))
      have er : ruleOfD [a, b, c', d, e] = if isRuleD (.tuple [.str a, optID (wholeO b), optID (wholeO c'), pausesD d, optID (wholeO e)]) then some (.tuple [.str a, optID (wholeO b), optID (wholeO c'), pausesD d, optID (wholeO e)]) else none := rfl
      refine ⟨_, dd, w2, ?_⟩
      generalize PyData.tuple [.str a, optID (wholeO b), optID (wholeO c'), pausesD d, optID (wholeO e)] = x at dd er ⊢
      refine iteB (c := !isRuleD x) (fun h => ?_) (fun h => ?_)
      · rw [not_b h] at er
        exact bQ.same wf (sm1.trans sm2) (k0 er)
      · rw [not_b' h] at er
        exact bQ.mk w2 (k1 _ _ _ er dd (sm1.trans sm2) w2)

def readD (z : Str) : Option PyData := ruleOfD (Txt.split z blank)

abbrev s_read_rule : Stmt := topS 24
abbrev N_read_rule : List Str := ["text", "rule"]
theorem sc_read_rule : FnScope N_read_rule ["text"] (defScope s_read_rule) := ⟨rfl, rfl, rfl, by decide +kernel, rfl, by decide +kernel, by decide +kernel⟩
def sp_read_rule (K : PySem.W.Frag) (c : Ad) : Sp := fun vs H Q E => arg1 (fun v => Wf H ∧ ((∃ z, v = .str z ∧ z.length ≤ 100000 ∧ (∀ d q H', readD z = some d → Dp K H' (.ref q) d → Same H H' → Wf H' → Q (.ref q) H') ∧ (readD z = none → E (.ref c.NoRule) none H)) ∨ (IsiV K H v "str" false ∧ E (.ref c.NoRule) none H))) vs
theorem ok_read_rule {P : Program} {w : World} {K : PySem.W.Frag} {mg : Str → Option Value} {base : Heap} {c : Ad} (T : Txt K mg c) : Ok P w K mg base 5 "read_rule" ["text"] (sp_read_rule K c) := by
  refine okF T.f_read_rule sc_read_rule (fun vs H Q E h => ?_) (fun f cdv A outer sh H vs Q E hr h => ?_)
  · obtain ⟨v, rfl, h⟩ := arg1.ex h
    rfl
  · obtain ⟨v, rfl, h⟩ := arg1.ex h
    have tk : Takes (cxOf (L2.CX P w) P w K mg base N_read_rule "read_rule" (defScope s_read_rule) f cdv A outer sh H (bE H E)) (fun cls d _ H' => bE H E cls d H') := takes_of rfl rfl rfl rfl
    refine ⟨_, pss_cons (ps_if (pt_not (pt_truthU (K := K) (pe_callB (callU_isi (K := K)) (by rfl) T.m_isinstance (by decide +kernel) (pa_cons (lv 0) (pa_cons (pe_ty "str" T.m_str) pa_nil))) (by intro _; rfl)))
      (pss_one (ps_rai T.x_NoRule tk)) pss_nil)
      (pss_cons (ps_set (i := 1) sc_read_rule.nd rfl (.inl rfl) (pe_f (ok_rule_of (K := K) T) hr passL (pa_cons (pe_split (lv 0) pe_str) pa_nil)))
      (pss_cons (ps_if (pt_cmpU opU_is (lv 1) pe_non (nomark _))
      (pss_one (ps_rai T.x_NoRule tk)) pss_nil)
      (pss_one (ps_ret (lv 1))))), ?_⟩
    obtain ⟨wf, h⟩ := h
    rcases h with ⟨z, rfl, hz, k, kE⟩ | ⟨h, kE⟩
    · refine ⟨_, isk_str (v := .str z) trivial, ?_⟩
      have hs := split_parts (z := z) (c := 32) (by decide)
      refine ⟨⟨_, rfl⟩, _, _, rfl, rfl, rfl, line_of (by omega), fun p np => ?_⟩
      have e0 : Txt.split z (PySem.Str.ofString " ") = Txt.split z blank := rfl
      rw [e0]
      have sm1 := same_new (o := .lst ((Txt.split z blank).map V.str)) np
      have ep : (upd H p (.lst ((Txt.split z blank).map V.str))) p = some (.lst ((Txt.split z blank).map V.str)) := upd_same
      have w1 := wf.new (o := .lst ((Txt.split z blank).map V.str)) trivial np
      generalize upd H p (.lst ((Txt.split z blank).map V.str)) = H1 at sm1 ep w1 ⊢
      refine ⟨p, _, rfl, .inl (.inl ep), fun w hw => Nat.le_trans (hs.1 w hw) hz, w1, fun e => ?_, fun d q H' e dd sm2 w2 => ?_⟩
      · exact bE.same wf sm1 (kE e)
      · exact bQ.mk w2 (k d q H' e dd (sm1.trans sm2) w2)
    · exact ⟨_, h, bE.same wf (Same.refl _) kE⟩

theorem starts_one {z : Str} {c : Nat} : Txt.startswith z (SX.S [c]) = (z.cps.toList[0]? == some c) := by
  have h := PySem.StrLaws.subAt_one z c 0
  have e : Txt.startswith z (SX.S [c]) = (decide (0 + (SX.S [c]).length ≤ z.length) && PySem.Builtin.Str.subAt z (SX.S [c]) 0) := rfl
  rw [e, Bool.eq_iff_iff, Bool.and_eq_true, decide_eq_true_eq, beq_iff_eq]
  exact h
theorem numL_head : ∀ n : Nat, 0 < n → (TL.numL n)[0]? ≠ some 48 := by
  intro n
  induction n using Nat.strongRecOn with
  | _ n ih =>
    intro h0
    by_cases h : n < 10
    · rw [TL.numL_lt h]
      simp
      omega
    · rw [TL.numL_step (by omega)]
      have := ih (n / 10) (by omega) (by omega)
      rw [List.getElem?_append_left (List.length_pos_iff.mpr (TL.numL_ne _))]
      exact this
theorem num_whole {n : Int} (h : 0 ≤ n) (h2 : n ≤ 1000000) : wholeO (numT n) = some n := by
  have hl : (numT n).length ≤ 7 := (num_ok h h2).2.1
  have e := num_nat h
  have hd : figB (numT n) = true := by
    unfold figB
    rw [e, List.all_eq_true]
    intro c hc
    have := TL.numL_digits n.toNat c hc
    have f : ∀ c, 48 ≤ c → c ≤ 57 → c ∈ figs := by
      intro c a b
      obtain rfl | rfl | rfl | rfl | rfl | rfl | rfl | rfl | rfl | rfl : c = 48 ∨ c = 49 ∨ c = 50 ∨ c = 51 ∨ c = 52 ∨ c = 53 ∨ c = 54 ∨ c = 55 ∨ c = 56 ∨ c = 57 := by omega
      all_goals decide +kernel
    exact decide_eq_true (f c this.1 this.2)
  have h1 : 1 ≤ (numT n).length := by
    rw [e, SX.S_len]
    exact List.length_pos_iff.mpr (TL.numL_ne _)
  have hi : PySem.intText? (numT n) = some n := by
    obtain ⟨j, rfl⟩ : ∃ j : Nat, n = j := ⟨n.toNat, by omega⟩
    exact TL.int_num (by rw [← SX.S_len, ← SX.num_S]; show (numT (j : Int)).length ≤ 4300; omega)
  unfold wholeO
  rw [hd, hi, decide_eq_true (by omega), decide_eq_true (by omega)]
  have hz : (decide (1 < ((numT n).length : Int)) && Txt.startswith (numT n) "0") = false := by
    have e0 : Txt.startswith (numT n) "0" = ((numT n).cps.toList[0]? == some 48) := starts_one
    rw [e0, e]
    by_cases hn : n.toNat = 0
    · rw [hn]
      rfl
    · have := numL_head n.toNat (by omega)
      have e3 : ((SX.S (TL.numL n.toNat)).cps.toList[0]? == some 48) = false := by
        rw [beq_eq_false_iff_ne]
        exact this
      rw [e3, Bool.and_false]
  rw [hz]
  rfl

theorem join_split {ws : List Str} {c : Nat} (hc : c < 256) (hne : ws ≠ []) (h : ∀ w ∈ ws, c ∉ w.cps.toList) : Txt.split (Txt.join (SX.S [c]) ws) (SX.S [c]) = ws := by
  have e1 : ws = (ws.map (fun w => w.cps.toList)).map SX.S := by
    rw [List.map_map]
    conv => lhs; rw [← List.map_id ws]
    apply List.map_congr_left
    intro w _
    exact (SX.S_tl w).symm
  have e2 : Txt.join (SX.S [c]) ws = SX.S (TL.joinL [c] (ws.map (fun w => w.cps.toList))) := by
    conv => lhs; rw [e1]
    exact SX.join_S _ _
  rw [e2, SX.split_S (by simp) (by simpa using hc), SX.spl_join (by simpa using hne) (fun p hp => ?_), ← e1]
  obtain ⟨w, hw, rfl⟩ := List.mem_map.mp hp
  exact h w hw
theorem num_free {n : Int} {c : Nat} (h : 0 ≤ n) (hc : c < 48 ∨ 57 < c) : c ∉ (numT n).cps.toList := by
  rw [num_nat h]
  exact TL.numL_free hc
theorem pauses_back {ps : List Int} (h : ∀ p ∈ ps, 0 ≤ p ∧ p ≤ 1000000) : pausesD (joinT (ps.map numT) comma) = .tuple (ps.map .int) := by
  by_cases hn : ps = []
  · subst hn
    rfl
  · have hne : ps.map numT ≠ [] := by simpa using hn
    have e1 : joinT (ps.map numT) comma = Txt.join comma (ps.map numT) := if_neg hne
    have e2 : Txt.split (Txt.join comma (ps.map numT)) comma = ps.map numT := join_split (by decide) hne fun w hw => by
      obtain ⟨n, hn, rfl⟩ := List.mem_map.mp hw
      exact num_free (h n hn).1 (by decide)
    have e3 : Txt.join comma (ps.map numT) ≠ "-" := fun e => by
      rw [e] at e2
      have e4 : Txt.split "-" comma = [("-" : Str)] := by decide +kernel
      rw [e4] at e2
      cases ps with
      | nil => exact hn rfl
      | cons p r =>
        rw [List.map_cons] at e2
        have e5 := (List.cons.inj e2).1
        have hp := num_free (n := p) (c := 45) (h p List.mem_cons_self).1 (by decide)
        rw [← e5] at hp
        exact hp (by decide +kernel)
    unfold pausesD
    rw [e1, if_neg e3, e2, List.map_map]
    congr 1
    apply List.map_congr_left
    intro p hp
    show optID (wholeO (numT p)) = .int p
    rw [num_whole (h p hp).1 (h p hp).2]
    rfl

theorem joinL_mem {s : List Nat} {c : Nat} : ∀ {ps : List (List Nat)}, c ∈ TL.joinL s ps → c ∈ s ∨ ∃ p ∈ ps, c ∈ p
  | [], h => by cases h
  | [p], h => .inr ⟨p, List.mem_cons_self, h⟩
  | p :: q :: r, h => by
    have h2 : c ∈ p ++ (s ++ TL.joinL s (q :: r)) := h
    rcases List.mem_append.mp h2 with h | h
    · exact .inr ⟨p, List.mem_cons_self, h⟩
    · rcases List.mem_append.mp h with h | h
      · exact .inl h
      · rcases joinL_mem h with h | ⟨x, hx, h⟩
        · exact .inl h
        · exact .inr ⟨x, List.mem_cons_of_mem _ hx, h⟩
theorem join_eq (c : Nat) (ws : List Str) : Txt.join (SX.S [c]) ws = SX.S (TL.joinL [c] (ws.map (fun w => w.cps.toList))) := by
  have e1 : ws = (ws.map (fun w => w.cps.toList)).map SX.S := by
    rw [List.map_map]
    conv => lhs; rw [← List.map_id ws]
    apply List.map_congr_left
    intro w _
    exact (SX.S_tl w).symm
  conv => lhs; rw [e1]
  exact SX.join_S _ _
theorem pauses_free {ps : List Int} (h : ∀ p ∈ ps, 0 ≤ p ∧ p ≤ 1000000) : 32 ∉ (joinT (ps.map numT) comma).cps.toList := by
  unfold joinT
  split
  · decide +kernel
  · rw [join_eq]
    intro hm
    rcases joinL_mem hm with hm | ⟨p, hp, hm⟩
    · revert hm
      decide
    · obtain ⟨w, hw, rfl⟩ := List.mem_map.mp hp
      obtain ⟨n, hn, rfl⟩ := List.mem_map.mp hw
      exact num_free (h n hn).1 (by decide) hm
/-- a rule's text is read to the rule -/
theorem read_back {o : Str} {t l : Int} {ps : List Int} {m : Int} (h : RuleOk o t l ps m) : readD (ruleT o t l ps m) = some (ruleD o t l ps m) := by
  have ok := rule_ok h
  obtain ⟨ho, ⟨h1, h2⟩, ⟨h3, h4⟩, ⟨h5, h6⟩, h7, h8⟩ := h
  have e : Txt.split (ruleT o t l ps m) blank = [o, numT t, numT l, joinT (ps.map numT) comma, numT m] := join_split (by decide) (by simp) fun w hw => by
    simp only [List.mem_cons, List.not_mem_nil, or_false] at hw
    rcases hw with rfl | rfl | rfl | rfl | rfl
    · rcases ho with rfl | rfl <;> decide +kernel
    · exact num_free (by omega) (by decide)
    · exact num_free (by omega) (by decide)
    · exact pauses_free h6
    · exact num_free (by omega) (by decide)
  have er : ∀ (a b d e : Str) (f : Str), ruleOfD [a, b, d, e, f] = if isRuleD (.tuple [.str a, optID (wholeO b), optID (wholeO d), pausesD e, optID (wholeO f)]) then some (.tuple [.str a, optID (wholeO b), optID (wholeO d), pausesD e, optID (wholeO f)]) else none := fun _ _ _ _ _ => rfl
  unfold readD
  rw [e, er, num_whole (n := t) (by omega) (by omega), num_whole (n := l) (by omega) (by omega), num_whole (n := m) (by omega) (by omega), pauses_back h6]
  exact if_pos ok

/-- a rule stands at v -/
def RuleAt (K : PySem.W.Frag) (H : Hp) (v : V) (o : Str) (t l : Int) (ps : List Int) (m : Int) : Prop := ∃ p q, v = .ref p ∧ SqT K H p [.str o, .int t, .int l, .ref q, .int m] ∧ SqT K H q (ps.map V.int)
theorem RuleAt.dp {K : PySem.W.Frag} {H : Hp} {v : V} {o : Str} {t l : Int} {ps : List Int} {m : Int} (h : RuleAt K H v o t l ps m) : Dp K H v (ruleD o t l ps m) := by
  obtain ⟨p, q, rfl, h1, h2⟩ := h
  exact .tup h1 (.cons (.str o) (.cons (.int t) (.cons (.int l) (.cons (.tup h2 (dp_ints ps)) (.cons (.int m) .nil)))))
theorem RuleAt.keep {K : PySem.W.Frag} {H H' : Hp} {v : V} {o : Str} {t l : Int} {ps : List Int} {m : Int} (h : RuleAt K H v o t l ps m) (k : ∀ p xs, SqT K H p xs → SqT K H' p xs) : RuleAt K H' v o t l ps m := by
  obtain ⟨p, q, rfl, h1, h2⟩ := h
  exact ⟨p, q, rfl, k _ _ h1, k _ _ h2⟩

abbrev s__law_rule : Stmt := topS 30
abbrev N__law_rule : List Str := ["_law_state_here", "_law_order", "_law_tries", "_law_longest", "_law_pauses", "_law_k", "_law_some", "_law_most"]
theorem sc__law_rule : FnScope N__law_rule ["_law_state_here"] (defScope s__law_rule) := ⟨rfl, rfl, rfl, by decide +kernel, rfl, by decide +kernel, by decide +kernel⟩
def sp__law_rule (K : PySem.W.Frag) (c : Ad) : Sp := fun vs H Q E => arg1 (fun s => ∃ a, s = .ref a ∧ St2 H a ∧ Wf H ∧ ∀ v H' o t l ps m, Dr a H H' → RuleAt K H' v o t l ps m → RuleOk o t l ps m → Q v H') vs
theorem ok__law_rule {P : Program} {w : World} {K : PySem.W.Frag} {mg : Str → Option Value} {base : Heap} {c : Ad} (T : Txt K mg c) : Ok P w K mg base 3 "_law_rule" ["_law_state_here"] (sp__law_rule K c) := by
  refine okF T.f__law_rule sc__law_rule (fun vs H Q E h => ?_) (fun f cdv A outer sh H vs Q E hr h => ?_)
  · obtain ⟨s, rfl, h⟩ := arg1.ex h
    rfl
  · obtain ⟨s, rfl, h⟩ := arg1.ex h
    have tk : Takes (cxOf (L2.CX P w) P w K mg base N__law_rule "_law_rule" (defScope s__law_rule) f cdv A outer sh H (bE H E)) (fun cls d _ H' => bE H E cls d H') := takes_of rfl rfl rfl rfl
    refine ⟨_, pss_cons (ps_set (i := 1) sc__law_rule.nd rfl (.inl rfl) (pe_ix (ixU (K := K)) (pe_lst (pa_cons pe_str (pa_cons pe_str pa_nil))) (pe_f (ok__law_digit (K := K) T) hr passL (pa_cons (lv 0) (pa_cons pe_int pa_nil))) (fun _ _ => rfl)))
      (pss_cons (ps_set (i := 2) sc__law_rule.nd rfl (.inl rfl) (pe_ix (ixU (K := K)) (pe_lst (pa_cons pe_int (pa_cons pe_int (pa_cons (pe_op (opU_add (K := K)) pe_int (pe_f (ok__law_digit (K := K) T) hr passL (pa_cons (lv 0) (pa_cons pe_int pa_nil)))) pa_nil)))) (pe_f (ok__law_digit (K := K) T) hr passL (pa_cons (lv 0) (pa_cons pe_int pa_nil))) (fun _ _ => rfl)))
      (pss_cons (ps_set (i := 3) sc__law_rule.nd rfl (.inl rfl) (pe_ix (ixU (K := K)) (pe_lst (pa_cons pe_int (pa_cons (pe_op opU_pow pe_int pe_int) (pa_cons (pe_op (opU_add (K := K)) pe_int (pe_f (ok__law_digit (K := K) T) hr passL (pa_cons (lv 0) (pa_cons (pe_op opU_pow pe_int pe_int) pa_nil)))) (pa_cons (pe_op (opU_add (K := K)) pe_int (pe_f (ok__law_digit (K := K) T) hr passL (pa_cons (lv 0) (pa_cons pe_int pa_nil)))) pa_nil))))) (pe_f (ok__law_digit (K := K) T) hr passL (pa_cons (lv 0) (pa_cons pe_int pa_nil))) (fun _ _ => rfl)))
      (pss_cons (ps_set (i := 4) sc__law_rule.nd rfl (.inl rfl) (pe_lst pa_nil))
      (pss_cons (ps_for (passes_of rfl) rfl (pi_range1 (by rfl) T.m_range (pa_cons (pe_f (ok__law_digit (K := K) T) hr passL (pa_cons (lv 0) (pa_cons pe_int pa_nil))) pa_nil)) (pg_name (i := 5) sc__law_rule.nd rfl (.inl rfl))
      (pss_cons (ps_set (i := 6) sc__law_rule.nd rfl (.inl rfl) (pe_lst (pa_cons pe_int (pa_cons (pe_f (ok__law_digit (K := K) T) hr passL (pa_cons (lv 0) (pa_cons pe_int pa_nil))) (pa_cons (pe_f (ok__law_digit (K := K) T) hr passL (pa_cons (lv 0) (pa_cons (pe_op (opU_add (K := K)) (pe_op opU_pow pe_int pe_int) pe_int) pa_nil))) (pa_cons (pe_op opU_pow pe_int pe_int) pa_nil))))))
      (pss_one (ps_expr (pe_bm PySem.F.plainAttrs_list PySem.F.slot_list_append PySem.F.type_list_append mt_append (lv 4) (pa_cons (pe_ix (ixU (K := K)) (lv 6) (pe_f (ok__law_digit (K := K) T) hr passL (pa_cons (lv 0) (pa_cons pe_int pa_nil))) (fun _ _ => rfl)) pa_nil))))))
      (pss_cons (ps_set (i := 7) sc__law_rule.nd rfl (.inl rfl) (pe_ix (ixU (K := K)) (pe_lst (pa_cons pe_int (pa_cons pe_int (pa_cons (pe_f (ok__law_digit (K := K) T) hr passL (pa_cons (lv 0) (pa_cons pe_int pa_nil))) (pa_cons (pe_op (opU_add (K := K)) pe_int (pe_f (ok__law_digit (K := K) T) hr passL (pa_cons (lv 0) (pa_cons pe_int pa_nil)))) pa_nil))))) (pe_f (ok__law_digit (K := K) T) hr passL (pa_cons (lv 0) (pa_cons pe_int pa_nil))) (fun _ _ => rfl)))
      (pss_one (ps_ret (pe_tup (pa_cons (lv 1) (pa_cons (lv 2) (pa_cons (lv 3) (pa_cons (pe_callTy (callU_tuple (K := K)) (by rfl) T.m_tuple (by decide +kernel) (pa_cons (lv 4) pa_nil)) (pa_cons (lv 7) pa_nil))))))))))))), ?_⟩
    obtain ⟨a, rfl, s0, wf, k⟩ := h
    have d0 := Dr.refl s0 wf
    refine ⟨line_of (show 2 ≤ 16777216 by decide), fun x1 nx1 => ?_⟩
    have nex1 := st_ne d0.st nx1
    have d1 := d0.new (p := x1) (o := .lst [.str "put", .str "turns"]) nx1 trivial
    have ex1 : (upd H x1 (.lst [.str "put", .str "turns"])) x1 = some (.lst [.str "put", .str "turns"]) := upd_same
    generalize upd H x1 (.lst [.str "put", .str "turns"]) = H1 at d1 ex1  ⊢
    refine ⟨a, 2, rfl, rfl, d1.st, bas_lt (by decide) (by decide), d1.wf, fun r2 p2 q2 g2 l2 n2 => ?_⟩
    have d2 := d1.drawn (q := q2) n2
    replace ex1 := (upd_ne (o := stL p2 q2) nex1).trans ex1
    generalize upd H1 a (stL p2 q2) = H2 at d2 ex1 ⊢
    obtain ⟨v1, hv1, hm1⟩ := at_lt (xs := [V.str "put", V.str "turns"]) g2 (by exact l2)
    refine ⟨_, v1, .inl (.inl (.inl ex1)), hv1, ?_⟩
    have ho : ∃ o : Str, v1 = .str o ∧ (o = "put" ∨ o = "turns") := by
      simp only [List.mem_cons, List.not_mem_nil, or_false] at hm1
      rcases hm1 with rfl | rfl
      · exact ⟨_, rfl, .inl rfl⟩
      · exact ⟨_, rfl, .inr rfl⟩
    obtain ⟨o, rfl, ho⟩ := ho
    refine ⟨a, 20, rfl, rfl, d2.st, bas_lt (by decide) (by decide), d2.wf, fun r3 p3 q3 g3 l3 n3 => ?_⟩
    have d3 := d2.drawn (q := q3) n3
    generalize upd H2 a (stL p3 q3) = H3 at d3  ⊢
    refine ⟨line_of (show 3 ≤ 16777216 by decide), fun x2 nx2 => ?_⟩
    have nex2 := st_ne d3.st nx2
    have d4 := d3.new (p := x2) (o := .lst [.int 1, .int 20, .int (1 + r3)]) nx2 trivial
    have ex2 : (upd H3 x2 (.lst [.int 1, .int 20, .int (1 + r3)])) x2 = some (.lst [.int 1, .int 20, .int (1 + r3)]) := upd_same
    generalize upd H3 x2 (.lst [.int 1, .int 20, .int (1 + r3)]) = H4 at d4 ex2  ⊢
    refine ⟨a, 3, rfl, rfl, d4.st, bas_lt (by decide) (by decide), d4.wf, fun r5 p5 q5 g5 l5 n5 => ?_⟩
    have d5 := d4.drawn (q := q5) n5
    replace ex2 := (upd_ne (o := stL p5 q5) nex2).trans ex2
    generalize upd H4 a (stL p5 q5) = H5 at d5 ex2 ⊢
    obtain ⟨v2, hv2, hm2⟩ := at_lt (xs := [V.int 1, V.int 20, V.int (1 + r3)]) g5 (by exact l5)
    refine ⟨_, v2, .inl (.inl (.inl ex2)), hv2, ?_⟩
    have ht : ∃ t : Int, v2 = .int t ∧ 1 ≤ t ∧ t ≤ 20 := by
      simp only [List.mem_cons, List.not_mem_nil, or_false] at hm2
      rcases hm2 with rfl | rfl | rfl
      · exact ⟨_, rfl, by decide, by decide⟩
      · exact ⟨_, rfl, by decide, by decide⟩
      · exact ⟨_, rfl, by omega, by omega⟩
    obtain ⟨t, rfl, ht⟩ := ht
    refine ⟨⟨by decide, by decide, by decide⟩, ⟨by decide, by decide, by decide⟩, ?_⟩
    refine ⟨a, _, rfl, rfl, d5.st, bas_lt (by decide) (by decide), d5.wf, fun r6 p6 q6 g6 l6 n6 => ?_⟩
    have d6 := d5.drawn (q := q6) n6
    generalize upd H5 a (stL p6 q6) = H6 at d6  ⊢
    have l6' : r6 < 1000000 := l6
    refine ⟨a, 9, rfl, rfl, d6.st, bas_lt (by decide) (by decide), d6.wf, fun r7 p7 q7 g7 l7 n7 => ?_⟩
    have d7 := d6.drawn (q := q7) n7
    generalize upd H6 a (stL p7 q7) = H7 at d7  ⊢
    refine ⟨line_of (show 4 ≤ 16777216 by decide), fun x3 nx3 => ?_⟩
    have nex3 := st_ne d7.st nx3
    have d8 := d7.new (p := x3) (o := .lst [.int 1, .int (10 ^ Int.toNat 6), .int (1 + r6), .int (1 + r7)]) nx3 trivial
    have ex3 : (upd H7 x3 (.lst [.int 1, .int (10 ^ Int.toNat 6), .int (1 + r6), .int (1 + r7)])) x3 = some (.lst [.int 1, .int (10 ^ Int.toNat 6), .int (1 + r6), .int (1 + r7)]) := upd_same
    generalize upd H7 x3 (.lst [.int 1, .int (10 ^ Int.toNat 6), .int (1 + r6), .int (1 + r7)]) = H8 at d8 ex3  ⊢
    refine ⟨a, 4, rfl, rfl, d8.st, bas_lt (by decide) (by decide), d8.wf, fun r9 p9 q9 g9 l9 n9 => ?_⟩
    have d9 := d8.drawn (q := q9) n9
    replace ex3 := (upd_ne (o := stL p9 q9) nex3).trans ex3
    generalize upd H8 a (stL p9 q9) = H9 at d9 ex3 ⊢
    obtain ⟨v3, hv3, hm3⟩ := at_lt (xs := [V.int 1, V.int (10 ^ Int.toNat 6), V.int (1 + r6), V.int (1 + r7)]) g9 (by exact l9)
    refine ⟨_, v3, .inl (.inl (.inl ex3)), hv3, ?_⟩
    have hl : ∃ l : Int, v3 = .int l ∧ 1 ≤ l ∧ l ≤ 1000000 := by
      simp only [List.mem_cons, List.not_mem_nil, or_false] at hm3
      rcases hm3 with rfl | rfl | rfl | rfl
      · exact ⟨_, rfl, by decide, by decide⟩
      · exact ⟨_, rfl, by decide, by decide⟩
      · exact ⟨_, rfl, by omega, by omega⟩
      · exact ⟨_, rfl, by omega, by omega⟩
    obtain ⟨l, rfl, hl⟩ := hl
    refine ⟨line_of (show 0 ≤ 16777216 by decide), fun pl npl => ?_⟩
    have nepl := st_ne d9.st npl
    have d10 := d9.new (p := pl) (o := .lst []) npl trivial
    have epl : (upd H9 pl (.lst [])) pl = some (.lst []) := upd_same
    generalize upd H9 pl (.lst []) = H10 at d10 epl  ⊢
    refine ⟨a, 11, rfl, rfl, d10.st, bas_lt (by decide) (by decide), d10.wf, fun r11 p11 q11 g11 l11 n11 => ?_⟩
    have d11 := d10.drawn (q := q11) n11
    replace epl := (upd_ne (o := stL p11 q11) nepl).trans epl
    generalize upd H10 a (stL p11 q11) = H11 at d11 epl ⊢
    refine ⟨_, rfl, by omega, by omega, ?_⟩
    have fpl := d9.free npl
    refine for_range (lo := 0) (n := r11.toNat) (fun i σ H' => ∃ (ps : List Int) (y1 y2 : Option V), σ = [some (.ref a), some (.str o), some (.int t), some (.int l), some (.ref pl), y1, y2, none] ∧ Dr a H H' ∧ H' pl = some (.lst (ps.map V.int)) ∧ ps.length = i ∧ ∀ p ∈ ps, 0 ≤ p ∧ p ≤ 1000000) ⟨[], _, _, rfl, d11, epl, rfl, by simp⟩ (fun i σ HL0 hi hp => ?_) (fun σ HM0 hp => ?_)
    · obtain ⟨ps, y1, y2, rfl, dL0, epl, hpl, hb⟩ := hp
      refine ⟨a, 9, rfl, rfl, dL0.st, bas_lt (by decide) (by decide), dL0.wf, fun rL1 pL1 qL1 gL1 lL1 nL1 => ?_⟩
      have dL1 := dL0.drawn (q := qL1) nL1
      replace epl := (upd_ne (o := stL pL1 qL1) nepl).trans epl
      generalize upd HL0 a (stL pL1 qL1) = HL1 at dL1 epl ⊢
      refine ⟨⟨by decide, by decide, by decide⟩, ?_⟩
      refine ⟨a, _, rfl, rfl, dL1.st, bas_lt (by decide) (by decide), dL1.wf, fun rL2 pL2 qL2 gL2 lL2 nL2 => ?_⟩
      have dL2 := dL1.drawn (q := qL2) nL2
      replace epl := (upd_ne (o := stL pL2 qL2) nepl).trans epl
      generalize upd HL1 a (stL pL2 qL2) = HL2 at dL2 epl ⊢
      have lL2' : rL2 < 1000001 := lL2
      refine ⟨⟨by decide, by decide, by decide⟩, ?_⟩
      refine ⟨line_of (show 4 ≤ 16777216 by decide), fun x4 nx4 => ?_⟩
      have nex4 := st_ne dL2.st nx4
      have dL3 := dL2.new (p := x4) (o := .lst [.int 0, .int rL1, .int rL2, .int (10 ^ Int.toNat 6)]) nx4 trivial
      replace epl := same_new (o := .lst [.int 0, .int rL1, .int rL2, .int (10 ^ Int.toNat 6)]) nx4 _ _ epl
      have ex4 : (upd HL2 x4 (.lst [.int 0, .int rL1, .int rL2, .int (10 ^ Int.toNat 6)])) x4 = some (.lst [.int 0, .int rL1, .int rL2, .int (10 ^ Int.toNat 6)]) := upd_same
      generalize upd HL2 x4 (.lst [.int 0, .int rL1, .int rL2, .int (10 ^ Int.toNat 6)]) = HL3 at dL3 ex4 epl ⊢
      refine ⟨.inl ⟨rfl, _, .inl (.inl epl)⟩, ?_⟩
      refine ⟨a, 4, rfl, rfl, dL3.st, bas_lt (by decide) (by decide), dL3.wf, fun rL4 pL4 qL4 gL4 lL4 nL4 => ?_⟩
      have dL4 := dL3.drawn (q := qL4) nL4
      replace epl := (upd_ne (o := stL pL4 qL4) nepl).trans epl
      replace ex4 := (upd_ne (o := stL pL4 qL4) nex4).trans ex4
      generalize upd HL3 a (stL pL4 qL4) = HL4 at dL4 epl ex4 ⊢
      obtain ⟨v4, hv4, hm4⟩ := at_lt (xs := [V.int 0, V.int rL1, V.int rL2, V.int (10 ^ Int.toNat 6)]) gL4 (by exact lL4)
      refine ⟨_, v4, .inl (.inl (.inl ex4)), hv4, ?_⟩
      have hv : ∃ n : Int, v4 = .int n ∧ 0 ≤ n ∧ n ≤ 1000000 := by
        simp only [List.mem_cons, List.not_mem_nil, or_false] at hm4
        rcases hm4 with rfl | rfl | rfl | rfl
        · exact ⟨_, rfl, by decide, by decide⟩
        · exact ⟨_, rfl, by omega, by omega⟩
        · exact ⟨_, rfl, by omega, by omega⟩
        · exact ⟨_, rfl, by decide, by decide⟩
      obtain ⟨n, rfl, hn⟩ := hv
      refine ⟨pl, _, _, rfl, rfl, epl, line_lt (by rw [List.length_map]; omega), ps ++ [n], _, _, rfl, dL4.put fpl epl (fun _ z => by cases z) trivial nepl, ?_, by rw [List.length_append, hpl]; rfl, ?_⟩
      · rw [upd_same, List.map_append]
        rfl
      · intro p hp
        rcases List.mem_append.mp hp with h | h
        · exact hb p h
        · rw [List.mem_singleton.mp h]
          exact hn
    · obtain ⟨ps, y1, y2, rfl, dM0, epl, hpl, hb⟩ := hp
      refine ⟨a, 201, rfl, rfl, dM0.st, bas_lt (by decide) (by decide), dM0.wf, fun rM1 pM1 qM1 gM1 lM1 nM1 => ?_⟩
      have dM1 := dM0.drawn (q := qM1) nM1
      replace epl := (upd_ne (o := stL pM1 qM1) nepl).trans epl
      generalize upd HM0 a (stL pM1 qM1) = HM1 at dM1 epl ⊢
      refine ⟨a, 3, rfl, rfl, dM1.st, bas_lt (by decide) (by decide), dM1.wf, fun rM2 pM2 qM2 gM2 lM2 nM2 => ?_⟩
      have dM2 := dM1.drawn (q := qM2) nM2
      replace epl := (upd_ne (o := stL pM2 qM2) nepl).trans epl
      generalize upd HM1 a (stL pM2 qM2) = HM2 at dM2 epl ⊢
      refine ⟨line_of (show 4 ≤ 16777216 by decide), fun x5 nx5 => ?_⟩
      have nex5 := st_ne dM2.st nx5
      have dM3 := dM2.new (p := x5) (o := .lst [.int 0, .int 200, .int rM1, .int (1 + rM2)]) nx5 trivial
      replace epl := same_new (o := .lst [.int 0, .int 200, .int rM1, .int (1 + rM2)]) nx5 _ _ epl
      have ex5 : (upd HM2 x5 (.lst [.int 0, .int 200, .int rM1, .int (1 + rM2)])) x5 = some (.lst [.int 0, .int 200, .int rM1, .int (1 + rM2)]) := upd_same
      generalize upd HM2 x5 (.lst [.int 0, .int 200, .int rM1, .int (1 + rM2)]) = HM3 at dM3 ex5 epl ⊢
      refine ⟨a, 4, rfl, rfl, dM3.st, bas_lt (by decide) (by decide), dM3.wf, fun rM4 pM4 qM4 gM4 lM4 nM4 => ?_⟩
      have dM4 := dM3.drawn (q := qM4) nM4
      replace epl := (upd_ne (o := stL pM4 qM4) nepl).trans epl
      replace ex5 := (upd_ne (o := stL pM4 qM4) nex5).trans ex5
      generalize upd HM3 a (stL pM4 qM4) = HM4 at dM4 epl ex5 ⊢
      obtain ⟨v5, hv5, hm5⟩ := at_lt (xs := [V.int 0, V.int 200, V.int rM1, V.int (1 + rM2)]) gM4 (by exact lM4)
      refine ⟨_, v5, .inl (.inl (.inl ex5)), hv5, ?_⟩
      have hv : ∃ n : Int, v5 = .int n ∧ 0 ≤ n ∧ n ≤ 200 := by
        simp only [List.mem_cons, List.not_mem_nil, or_false] at hm5
        rcases hm5 with rfl | rfl | rfl | rfl
        · exact ⟨_, rfl, by decide, by decide⟩
        · exact ⟨_, rfl, by decide, by decide⟩
        · exact ⟨_, rfl, by omega, by omega⟩
        · exact ⟨_, rfl, by omega, by omega⟩
      obtain ⟨m, rfl, hm⟩ := hv
      refine ⟨_, .inl ⟨.inl (.inl epl), fun q nq => ?_⟩⟩
      have dM5 := dM4.new (p := q) (o := .tup (ps.map V.int)) nq trivial
      have eq : (upd HM4 q (.tup (ps.map V.int))) q = some (.tup (ps.map V.int)) := upd_same
      generalize upd HM4 q (.tup (ps.map V.int)) = HM5 at dM5 eq ⊢
      refine ⟨line_of (show 5 ≤ 16777216 by decide), fun z nz => ?_⟩
      have dM6 := dM5.new (p := z) (o := .tup [.str o, .int t, .int l, .ref q, .int m]) nz trivial
      refine bQ.mk dM6.wf (k _ _ o t l ps m dM6 ⟨z, q, rfl, .inl (.inl upd_same), .inl (.inl (same_new nz _ _ eq))⟩ ⟨ho, ht, hl, ⟨by omega, hb⟩, hm⟩)

theorem ruleT_len {o : Str} {t l : Int} {ps : List Int} {m : Int} (h : RuleOk o t l ps m) : (ruleT o t l ps m).length ≤ 200 ∧ (joinT (ps.map numT) ",").length ≤ 80 ∧ o.length ≤ 5 := by
  obtain ⟨ho, ht, hl, ⟨hp1, hp2⟩, hm⟩ := h
  have hj : (joinT (ps.map numT) ",").length ≤ 80 := joinT_len (fun z hz => by
    obtain ⟨n, hn, rfl⟩ := List.mem_map.mp hz
    have := hp2 n hn
    exact (num_ok (n := n) (by omega) (by omega)).2.1) (by rw [List.length_map]; omega) (by decide +kernel)
  have hol : o.length ≤ 5 := by rcases ho with rfl | rfl <;> decide +kernel
  have n1 := (num_ok (n := t) (by omega) (by omega)).2.1
  have n2 := (num_ok (n := l) (by omega) (by omega)).2.1
  have n3 := (num_ok (n := m) (by omega) (by omega)).2.1
  refine ⟨?_, hj, hol⟩
  unfold ruleT
  have h1 : (Txt.join " " [o, numT t, numT l, joinT (ps.map numT) ",", numT m]).length ≤ (([o, numT t, numT l, joinT (ps.map numT) ",", numT m] : List Str).map (·.length)).sum + 5 * (" " : Str).length := by
    rw [show Txt.join " " [o, numT t, numT l, joinT (ps.map numT) ",", numT m] = PySem.Str.join " " [o, numT t, numT l, joinT (ps.map numT) ",", numT m] from StrLaws.glued_eq_join ..]
    exact StrLaws.join_length_le _ _
  have e : (([o, numT t, numT l, joinT (ps.map numT) ",", numT m] : List Str).map (·.length)).sum = o.length + ((numT t).length + ((numT l).length + ((joinT (ps.map numT) ",").length + ((numT m).length + 0)))) := rfl
  have e2 : (" " : Str).length = 1 := by decide +kernel
  rw [e, e2] at h1
  omega
/-- five words, a blank between -/
theorem join_sum (a b d e f : Str) : a ++ PySem.Str.ofString " " ++ b ++ PySem.Str.ofString " " ++ d ++ PySem.Str.ofString " " ++ e ++ PySem.Str.ofString " " ++ f = Txt.join " " [a, b, d, e, f] := by
  have eb : PySem.Str.ofString " " = SX.S [32] := by decide +kernel
  rw [eb]
  have h : Txt.join (SX.S [32]) [a, b, d, e, f] = SX.S (TL.joinL [32] ([a, b, d, e, f].map (fun w => w.cps.toList))) := join_eq 32 [a, b, d, e, f]
  rw [h]
  have g : ∀ x y : Str, x ++ y = SX.S (x.cps.toList ++ y.cps.toList) := fun x y => by
    conv => lhs; rw [← SX.S_tl x, ← SX.S_tl y]
    exact SX.S_cat _ _
  rw [g, g, g, g, g, g, g, g]
  simp [SX.S, TL.joinL]
theorem rule_shaped {o : Str} {t l : Int} {ps : List Int} {m : Int} (h : RuleOk o t l ps m) : SeqAt.shaped (ruleD o t l ps m) = true := by
  have h1 := shape_ints ps
  have ho : PyData.strOk o = true := by rcases h.1 with rfl | rfl <;> decide +kernel
  unfold SeqAt.shaped at h1 ⊢
  unfold ruleD
  rw [Bool.and_eq_true] at h1
  have h2 : PyData.canLayAll0 (ps.map .int) = true := h1.1
  have h3 : PyData.depthAll (ps.map .int) + 1 ≤ 64 := of_decide_eq_true h1.2
  have h4 : PyData.depthAll (ps.map .int) = 0 := by
    clear h1 h2 h3 h
    induction ps with
    | nil => rfl
    | cons z r ih =>
      show max 0 (PyData.depthAll (r.map .int)) = 0
      rw [ih]
      rfl
  simp [PyData.canLay0, PyData.canLayAll0, PyData.depth, PyData.depthAll, ho, h2, h4]
theorem rule_eqv {o : Str} {t l : Int} {ps : List Int} {m : Int} (h : RuleOk o t l ps m) : PyData.eqv (ruleD o t l ps m) (ruleD o t l ps m) = true := SeqAt.eqv_refl _ (by
  have := rule_shaped h
  unfold SeqAt.shaped at this
  rw [Bool.and_eq_true] at this
  exact this.1)

abbrev s__law_text : Stmt := topS 31
abbrev N__law_text : List Str := ["_law_rule_here", "_law_order", "_law_tries", "_law_longest", "_law_pauses", "_law_most", "_law_word", "_law_pause"]
theorem sc__law_text : FnScope N__law_text ["_law_rule_here"] (defScope s__law_text) := ⟨rfl, rfl, rfl, by decide +kernel, rfl, by decide +kernel, by decide +kernel⟩
def sp__law_text (K : PySem.W.Frag) (c : Ad) : Sp := fun vs H Q E => arg1 (fun v => ∃ o t l ps m, RuleAt K H v o t l ps m ∧ RuleOk o t l ps m ∧ Wf H ∧ Q (.str (ruleT o t l ps m)) H) vs
theorem ok__law_text {P : Program} {w : World} {K : PySem.W.Frag} {mg : Str → Option Value} {base : Heap} {c : Ad} (T : Txt K mg c) : Ok P w K mg base 1 "_law_text" ["_law_rule_here"] (sp__law_text K c) := by
  refine okF T.f__law_text sc__law_text (fun vs H Q E h => ?_) (fun f cdv A outer sh H vs Q E hr h => ?_)
  · obtain ⟨v, rfl, h⟩ := arg1.ex h
    rfl
  · obtain ⟨v, rfl, h⟩ := arg1.ex h
    have tk : Takes (cxOf (L2.CX P w) P w K mg base N__law_text "_law_text" (defScope s__law_text) f cdv A outer sh H (bE H E)) (fun cls d _ H' => bE H E cls d H') := takes_of rfl rfl rfl rfl
    refine ⟨_, pss_cons (ps_asg (lv 0) (pg_tupK (K := K) (n := 5) rfl (pgs_cons (pg_name (i := 1) sc__law_text.nd rfl (.inl rfl)) (pgs_cons (pg_name (i := 2) sc__law_text.nd rfl (.inl rfl)) (pgs_cons (pg_name (i := 3) sc__law_text.nd rfl (.inl rfl)) (pgs_cons (pg_name (i := 4) sc__law_text.nd rfl (.inl rfl)) (pgs_cons (pg_name (i := 5) sc__law_text.nd rfl (.inl rfl)) pgs_nil)))))))
      (pss_cons (ps_set (i := 6) sc__law_text.nd rfl (.inl rfl) (pe_join pe_str (pe_lc (own := [("_law_pause", 7)]) (g := gName 7) rfl sc__law_text.nd (pi_tupK (K := K) (lv 4)) (blkOk_by (own := [("_law_pause", 7)]) (N := N__law_text) (sc := defScope s__law_text) (by decide +kernel)) (fun _ _ _ _ _ => pg_name (i := 7) sc__law_text.nd rfl (.inl rfl)) (fun _ _ _ _ _ => pts_nil) (fun _ _ _ _ _ => pe_callTy callU_str (by rfl) T.m_str (by decide +kernel) (pa_cons (lv 7) pa_nil)))))
      (pss_cons (ps_cut (ps_if (pt_cmpU (opU_eq (K := K) hr) (lv 4) (pe_tup pa_nil) (nomark _))
      (pss_one (ps_set (i := 6) sc__law_text.nd rfl (.inl rfl) pe_str)) pss_nil))
      (pss_one (ps_ret (pe_op (opU_add (K := K)) (pe_op (opU_add (K := K)) (pe_op (opU_add (K := K)) (pe_op (opU_add (K := K)) (pe_op (opU_add (K := K)) (pe_op (opU_add (K := K)) (pe_op (opU_add (K := K)) (pe_op (opU_add (K := K)) (lv 1) pe_str) (pe_callTy callU_str (by rfl) T.m_str (by decide +kernel) (pa_cons (lv 2) pa_nil))) pe_str) (pe_callTy callU_str (by rfl) T.m_str (by decide +kernel) (pa_cons (lv 3) pa_nil))) pe_str) (lv 6)) pe_str) (pe_callTy callU_str (by rfl) T.m_str (by decide +kernel) (pa_cons (lv 5) pa_nil))))))), ?_⟩
    obtain ⟨o, t, l, ps, m, ⟨p, q, rfl, hT, hq⟩, ok, wf, k⟩ := h
    refine ⟨p, _, rfl, hT, rfl, _, _, rfl, _, _, rfl, _, _, rfl, _, _, rfl, _, _, rfl, rfl, ?_⟩
    obtain ⟨hL, hj, hol⟩ := ruleT_len ok
    obtain ⟨ho, ht, hl, ⟨hp1, hp2⟩, hm⟩ := ok
    refine ⟨⟨_, rfl⟩, ?_⟩
    refine ⟨q, rfl, ⟨_, hq⟩, fun D nD => ?_⟩
    have hD : ∀ o, Same H (upd H D o) := fun o => same_new nD
    refine lc_map (walk_tup (K := K) (a := q) (xs := ps.map V.int)) (fun i x => (ps.map V.int)[i]? = some x) (fun i H x H' h => h) (fun i => .str (numT (ps.getD i 0))) (line_lt (by rw [List.length_map]; omega)) (fun o => sqt_keep (fun u z => hD o _ _ z) hq) (fun i x acc C hi hx hC => ?_) ?_
    · rw [List.getElem?_map] at hx
      have hi2 : i < ps.length := by rwa [List.length_map] at hi
      rw [List.getElem?_eq_getElem hi2] at hx
      cases hx
      have e : ps.getD i 0 = ps[i] := by
        rw [List.getD_eq_getElem?_getD, List.getElem?_eq_getElem hi2]
        rfl
      rw [e] at hC
      have := hp2 ps[i] (List.getElem_mem hi2)
      exact ⟨rfl, (num_ok (by omega) (by omega)).2.2, hC⟩
    · have ep : (List.range (ps.map V.int).length).map (fun i => V.str (numT (ps.getD i 0))) = (ps.map numT).map V.str := by
        rw [List.length_map, R.range_getD ps 0 fun n => V.str (numT n), List.map_map]
        rfl
      rw [ep]
      have wD := wf.new (o := .lst ((ps.map numT).map V.str)) trivial nD
      have sm := hD (.lst ((ps.map numT).map V.str))
      have eD : (upd H D (.lst ((ps.map numT).map V.str))) D = some (.lst ((ps.map numT).map V.str)) := upd_same
      generalize upd H D (.lst ((ps.map numT).map V.str)) = H1 at wD sm eD ⊢
      have hJ : (Txt.join "," (ps.map numT)).length ≤ 80 := by
        unfold joinT at hj
        split at hj
        · rename_i e
          rw [e]
          decide +kernel
        · exact hj
      refine ⟨_, D, ps.map numT, rfl, rfl, .inl (.inl (.inl eD)), ?_, ?_⟩
      · have h2 := sum_le (ws := ps.map numT) (n := 7) fun z hz => by
          obtain ⟨n, hn, rfl⟩ := List.mem_map.mp hz
          have := hp2 n hn
          exact (num_ok (n := n) (by omega) (by omega)).2.1
        have e2 : (PySem.Str.ofString ",").length = 1 := by decide +kernel
        rw [List.length_map] at h2
        rw [e2, List.length_map]
        omega
      · refine ⟨fun σ' H' => σ' = [some (.ref p), some (.str o), some (.int t), some (.int l), some (.ref q), some (.int m), some (.str (joinT (ps.map numT) ",")), none] ∧ Same H H' ∧ Wf H', ?_, ?_⟩
        · refine ⟨line_of (show 0 ≤ 16777216 by decide), fun e ne => ?_⟩
          have sm2 := sm.trans (same_new (o := .tup []) ne)
          have w2 := wD.new (o := .tup []) trivial ne
          have hq1 := sqt_keep (fun u z => sm2 _ _ z) hq
          refine ⟨.tuple (ps.map .int), .tuple [], .tup hq1 (dp_ints ps), .tup (.inl (.inl upd_same)) .nil, shape_ints ps, rfl, ?_⟩
          refine iteB (c := PyData.eqv (.tuple (ps.map .int)) (.tuple [])) (fun g3 => ?_) (fun g3 => ?_)
          · rw [eqv_nil, List.isEmpty_iff] at g3
            subst g3
            exact ⟨rfl, sm2, w2⟩
          · rw [eqv_nil] at g3
            have hne : ps.map numT ≠ [] := fun e => by
              rw [List.map_eq_nil_iff] at e
              rw [e] at g3
              cases g3
            have e1 : joinT (ps.map numT) "," = Txt.join "," (ps.map numT) := if_neg hne
            rw [e1]
            exact ⟨rfl, sm2, w2⟩
        · rintro σ' H' ⟨rfl, sm2, w2⟩
          have n1 : (PySem.Str.ofString (toString t)).length ≤ 7 ∧ t.natAbs.log2 < 1920 := (num_ok (n := t) (by omega) (by omega)).2
          have n2 : (PySem.Str.ofString (toString l)).length ≤ 7 ∧ l.natAbs.log2 < 1920 := (num_ok (n := l) (by omega) (by omega)).2
          have n3 : (PySem.Str.ofString (toString m)).length ≤ 7 ∧ m.natAbs.log2 < 1920 := (num_ok (n := m) (by omega) (by omega)).2
          have ln := PySem.Str.length_append
          have e1 : (PySem.Str.ofString " ").length = 1 := by decide +kernel
          have L : ∀ {n : Nat}, n ≤ 300 → n ≤ sizeLine := fun h => line_of (Nat.le_trans h (by decide))
          refine ⟨L (by simp only [ln, e1]; omega), n1.2, L (by simp only [ln, e1]; omega), L (by simp only [ln, e1]; omega), n2.2, L (by simp only [ln, e1]; omega), L (by simp only [ln, e1]; omega), L (by simp only [ln, e1]; omega), L (by simp only [ln, e1]; omega), n3.2, L (by simp only [ln, e1]; omega), ?_⟩
          refine bQ.same wf sm2 ?_
          rw [join_sum]
          exact k

theorem numL_back {cs : List Nat} (h : NumText.AllDigits cs) (hn : cs ≠ []) (hh : cs.length = 1 ∨ cs[0]? ≠ some 48) : TL.numL (NumText.digitsVal cs) = cs := by
  have hl : cs.length = (cs.length - 1) + 1 := by
    have := List.length_pos_iff.mpr hn
    omega
  have e := NumText.toDigits_digitsVal (cs.length - 1) cs hl h (by
    rcases hh with hh | hh
    · exact .inl (by omega)
    · right
      cases cs with
      | nil => exact absurd rfl hn
      | cons c r =>
        refine ⟨c, r, rfl, ?_⟩
        have := h c List.mem_cons_self
        have : c ≠ 48 := fun z => hh (by rw [z]; rfl)
        omega)
  unfold TL.numL
  rw [e, List.map_map]
  conv => rhs; rw [← List.map_id cs]
  apply List.map_congr_left
  intro c hc
  have := h c hc
  have f : ∀ d, d < 10 → (Char.ofNat (48 + d)).toNat = 48 + d := by decide
  have := f (c - 48) (by omega)
  rw [show 48 + (c - 48) = c by omega] at this
  exact this
/-- a word that tells a number is that number's text -/
theorem whole_num {z : Str} {n : Int} (h : wholeO z = some n) : z = numT n ∧ 0 ≤ n := by
  unfold wholeO at h
  split at h
  · rename_i b
    rw [Bool.and_eq_true, Bool.and_eq_true, Bool.and_eq_true, decide_eq_true_eq, decide_eq_true_eq] at b
    obtain ⟨⟨⟨h1, h2⟩, h3⟩, h4⟩ := b
    have ez : z = SX.S z.cps.toList := (SX.S_tl z).symm
    have hl : z.cps.toList.length = z.length := Array.length_toList
    have hd : NumText.AllDigits z.cps.toList := fun c hc => by
      unfold figB at h3
      rw [List.all_eq_true] at h3
      have := figs_digit (of_decide_eq_true (h3 c hc))
      rw [Bool.and_eq_true, decide_eq_true_eq, decide_eq_true_eq] at this
      exact this
    have hn : z.cps.toList ≠ [] := fun e => by
      rw [e] at hl
      simp at hl
      omega
    have e1 : PySem.intText? z = some ((NumText.digitsVal z.cps.toList : Nat) : Int) := by
      conv => lhs; rw [ez]
      exact SX.int_S (by
        rw [List.all_eq_true]
        intro c hc
        have := hd c hc
        rw [Bool.and_eq_true, decide_eq_true_eq, decide_eq_true_eq]
        exact this) hn (by omega)
    rw [e1] at h
    cases h
    refine ⟨?_, by omega⟩
    have hh : z.cps.toList.length = 1 ∨ z.cps.toList[0]? ≠ some 48 := by
      by_cases h5 : z.cps.toList.length = 1
      · exact .inl h5
      · right
        intro e0
        have e0' : Txt.startswith z "0" = true := by
          have : Txt.startswith z "0" = (z.cps.toList[0]? == some 48) := starts_one
          rw [this, e0]
          rfl
        rw [e0', decide_eq_true (by omega)] at h4
        cases h4
    rw [num_nat (by omega), Int.toNat_natCast, numL_back hd hn hh]
  · cases h
/-- the number that a word tells within bounds -/
def wholeL (z : Str) (lo hi : Int) : Option Int := match wholeO z with
  | some n => if decide (lo ≤ n) && decide (n ≤ hi) then some n else none
  | none => none
theorem wholeL_d (z : Str) (lo hi : Int) : isWholeD (optID (wholeO z)) lo hi = (wholeL z lo hi).isSome ∧ ((wholeL z lo hi).isSome = true → optID (wholeO z) = optID (wholeL z lo hi)) := by
  unfold wholeL
  cases e : wholeO z with
  | none => exact ⟨rfl, fun h => by cases h⟩
  | some n =>
    have e2 : isWholeD (optID (some n)) lo hi = (decide (lo ≤ n) && decide (n ≤ hi)) := rfl
    rw [e2]
    cases h : (decide (lo ≤ n) && decide (n ≤ hi)) with
    | false => exact ⟨by simp [h], fun z => by simp [h] at z⟩
    | true => exact ⟨by simp [h], fun z => by simp [h]⟩
theorem wholeL_some {z : Str} {lo hi n : Int} (h : wholeL z lo hi = some n) : z = numT n ∧ 0 ≤ n ∧ lo ≤ n ∧ n ≤ hi := by
  unfold wholeL at h
  split at h
  · rename_i m e
    split at h
    · rename_i b
      cases h
      rw [Bool.and_eq_true, decide_eq_true_eq, decide_eq_true_eq] at b
      have := whole_num e
      exact ⟨this.1, this.2, b.1, b.2⟩
    · cases h
  · cases h
/-- the words of a row's pauses -/
def partsO (z : Str) : List Str := if z = "-" then [] else Txt.split z comma
theorem pausesD_parts (z : Str) : pausesD z = .tuple ((partsO z).map fun w => optID (wholeO w)) := by
  unfold pausesD partsO
  split <;> rfl
def goodL (a b d e f : Str) : Bool := isOrderD (.str a) && (wholeL b 1 20).isSome && (wholeL d 1 1000000).isSome && decide (((partsO e).length : Int) ≤ 10) && ((partsO e).all fun w => (wholeL w 0 1000000).isSome) && (wholeL f 0 200).isSome
def ruleLD (a b d e f : Str) : PyData := .tuple [.str a, optID (wholeL b 1 20), optID (wholeL d 1 1000000), .tuple ((partsO e).map fun w => optID (wholeL w 0 1000000)), optID (wholeL f 0 200)]
theorem rof_five (a b d e f : Str) : ruleOfD [a, b, d, e, f] = if goodL a b d e f then some (ruleLD a b d e f) else none := by
  have er : ruleOfD [a, b, d, e, f] = if isRuleD (.tuple [.str a, optID (wholeO b), optID (wholeO d), pausesD e, optID (wholeO f)]) then some (.tuple [.str a, optID (wholeO b), optID (wholeO d), pausesD e, optID (wholeO f)]) else none := rfl
  have e1 : isRuleD (.tuple [.str a, optID (wholeO b), optID (wholeO d), pausesD e, optID (wholeO f)]) = goodL a b d e f := by
    have q : isRuleD (.tuple [.str a, optID (wholeO b), optID (wholeO d), pausesD e, optID (wholeO f)]) = (isOrderD (.str a) && (isWholeD (optID (wholeO b)) 1 20 && isWholeD (optID (wholeO d)) 1 1000000) && (arePausesD (pausesD e) && isWholeD (optID (wholeO f)) 0 200)) := rfl
    rw [q, (wholeL_d b 1 20).1, (wholeL_d d 1 1000000).1, (wholeL_d f 0 200).1, pausesD_parts]
    have q2 : arePausesD (.tuple ((partsO e).map fun w => optID (wholeO w))) = (decide (((partsO e).length : Int) ≤ 10) && (partsO e).all fun w => (wholeL w 0 1000000).isSome) := by
      show (decide ((((partsO e).map fun w => optID (wholeO w)).length : Int) ≤ 10) && ((partsO e).map fun w => optID (wholeO w)).all fun d => isWholeD d 0 1000000) = _
      rw [List.length_map, List.all_map]
      congr 1
      congr 1
      funext w
      exact (wholeL_d w 0 1000000).1
    rw [q2]
    unfold goodL
    simp only [Bool.and_assoc]
  rw [er, e1]
  by_cases g : goodL a b d e f = true
  · rw [if_pos g, if_pos g]
    unfold goodL at g
    rw [Bool.and_eq_true, Bool.and_eq_true, Bool.and_eq_true, Bool.and_eq_true, Bool.and_eq_true] at g
    obtain ⟨⟨⟨⟨⟨g1, g2⟩, g3⟩, g4⟩, g5⟩, g6⟩ := g
    unfold ruleLD
    rw [(wholeL_d b 1 20).2 g2, (wholeL_d d 1 1000000).2 g3, (wholeL_d f 0 200).2 g6, pausesD_parts]
    congr 7
    apply List.map_congr_left
    intro w hw
    exact (wholeL_d w 0 1000000).2 (List.all_eq_true.mp g5 w hw)
  · rw [if_neg g, if_neg g]
theorem some_of {α : Type} {o : Option α} (h : o.isSome = true) : ∃ x, o = some x := by
  cases o with
  | none => cases h
  | some x => exact ⟨x, rfl⟩
theorem split_ne (z : Str) : Txt.split z comma ≠ [] := fun e => by
  have h := StrLaws.split_free z 44
  have : Txt.split z (SX.S [44]) = (TL.spl [44] 0 [] z.cps.toList).map SX.S := by
    have := SX.split_S (a := z.cps.toList) (b := [44]) (by simp) (by decide)
    rw [SX.S_tl] at this
    exact this
  rw [show Txt.split z comma = Txt.split z (SX.S [44]) from rfl, this, List.map_eq_nil_iff] at e
  have ne : ∀ (l acc : List Nat), TL.spl [44] 0 acc l ≠ [] := by
    intro l
    induction l with
    | nil =>
      intro acc
      rw [TL.spl_nil]
      simp
    | cons x r ih =>
      intro acc
      cases h : TL.pre [44] (x :: r) with
      | true =>
        rw [TL.spl_hit h]
        simp
      | false =>
        rw [TL.spl_miss h]
        exact ih _
  exact ne _ _ e
theorem eqS {x y : Str} (h : eqV (.str x) (.str y) = true) : x = y := by
  simpa [eqV] using h
/-- what is read is the rule whose text it is -/
theorem read_exact {z : Str} {r : PyData} (h : readD z = some r) : ∃ o t l ps m, r = ruleD o t l ps m ∧ RuleOk o t l ps m ∧ z = ruleT o t l ps m := by
  unfold readD at h
  have hj : Txt.join blank (Txt.split z blank) = z := by
    have := StrLaws.join_split z blank
    rw [show Txt.join blank (Txt.split z blank) = PySem.Str.join blank (Txt.split z blank) from StrLaws.glued_eq_join ..]
    exact this
  by_cases h5 : (Txt.split z blank).length = 5
  · obtain ⟨a, b, d, e, f, e5⟩ := five h5
    rw [e5] at h hj
    rw [rof_five] at h
    split at h
    · rename_i g
      cases h
      unfold goodL at g
      rw [Bool.and_eq_true, Bool.and_eq_true, Bool.and_eq_true, Bool.and_eq_true, Bool.and_eq_true] at g
      obtain ⟨⟨⟨⟨⟨g1, g2⟩, g3⟩, g4⟩, g5⟩, g6⟩ := g
      obtain ⟨t, et⟩ := some_of g2
      obtain ⟨l, el⟩ := some_of g3
      obtain ⟨m, em⟩ := some_of g6
      have wt := wholeL_some et
      have wl := wholeL_some el
      have wm := wholeL_some em
      have g4' := of_decide_eq_true g4
      rw [List.all_eq_true] at g5
      have hps : ∀ ws : List Str, (∀ w ∈ ws, (wholeL w 0 1000000).isSome = true) → ∃ ps : List Int, ws = ps.map numT ∧ (ws.map fun w => optID (wholeL w 0 1000000)) = ps.map .int ∧ ∀ p ∈ ps, 0 ≤ p ∧ p ≤ 1000000 := by
        intro ws
        induction ws with
        | nil => exact fun _ => ⟨[], rfl, rfl, by simp⟩
        | cons w r ih =>
          intro hw
          obtain ⟨ps, e1, e2, e3⟩ := ih fun x hx => hw x (List.mem_cons_of_mem _ hx)
          obtain ⟨n, en⟩ := some_of (hw w List.mem_cons_self)
          have q := wholeL_some en
          refine ⟨n :: ps, ?_, ?_, ?_⟩
          · rw [List.map_cons, ← e1, ← q.1]
          · rw [List.map_cons, List.map_cons, e2, en]
            rfl
          · intro p hp
            rcases List.mem_cons.mp hp with rfl | hp
            · exact ⟨q.2.1, q.2.2.2⟩
            · exact e3 p hp
      obtain ⟨ps, p1, p2, p3⟩ := hps (partsO e) g5
      refine ⟨a, t, l, ps, m, ?_, ⟨?_, ⟨wt.2.2.1, wt.2.2.2⟩, ⟨wl.2.2.1, wl.2.2.2⟩, ⟨?_, p3⟩, wm.2.2.1, wm.2.2.2⟩, ?_⟩
      · unfold ruleLD
        rw [et, el, em, p2]
        rfl
      · have g1' : inV (.str a) [.str "put", .str "turns"] = true := g1
        unfold inV at g1'
        simp only [List.any_cons, List.any_nil, Bool.or_false, Bool.or_eq_true] at g1'
        rcases g1' with g | g
        · left
          exact (eqS g).symm
        · right
          exact (eqS g).symm
      · have : (partsO e).length = ps.length := by rw [p1, List.length_map]
        omega
      · have ej : joinT (ps.map numT) "," = e := by
          rw [← p1]
          unfold partsO joinT
          by_cases hm : e = "-"
          · rw [if_pos hm, if_pos rfl, hm]
          · rw [if_neg hm, if_neg (split_ne e)]
            have := StrLaws.join_split e comma
            rw [show Txt.join "," (Txt.split e comma) = PySem.Str.join comma (Txt.split e comma) from StrLaws.glued_eq_join ..]
            exact this
        unfold ruleT
        rw [ej, ← wt.1, ← wl.1, ← wm.1]
        exact hj.symm
    · cases h
  · rw [rof_len h5] at h
    cases h

theorem wholeL_none {z : Str} {lo hi : Int} (h : wholeO z = none) : wholeL z lo hi = none := by
  unfold wholeL
  rw [h]
theorem figs_iff {c : Nat} : c ∈ figs ↔ 48 ≤ c ∧ c ≤ 57 := by
  refine ⟨fun h => ?_, fun ⟨a, b⟩ => ?_⟩
  · have := figs_digit h
    rw [Bool.and_eq_true, decide_eq_true_eq, decide_eq_true_eq] at this
    exact this
  · obtain rfl | rfl | rfl | rfl | rfl | rfl | rfl | rfl | rfl | rfl : c = 48 ∨ c = 49 ∨ c = 50 ∨ c = 51 ∨ c = 52 ∨ c = 53 ∨ c = 54 ∨ c = 55 ∨ c = 56 ∨ c = 57 := by omega
    all_goals decide +kernel
theorem filt_none {β : Type} {n : Nat} {q : Nat → Bool} {f : Nat → β} : (((List.range n).filter q).map f = []) ↔ ∀ i, i < n → q i = false := by
  rw [List.map_eq_nil_iff, List.filter_eq_nil_iff]
  refine ⟨fun h i hi => ?_, fun h i hi => ?_⟩
  · have := h i (List.mem_range.mpr hi)
    simpa using this
  · rw [h i (List.mem_range.mp hi)]
    exact Bool.false_ne_true
theorem dp_map_str {K : PySem.W.Frag} {H : Hp} : ∀ {α : Type} (f : α → Str) (l : List α), DpAll K H (l.map fun i => V.str (f i)) (l.map fun i => PyData.str (f i))
  | _, _, [] => .nil
  | _, f, _ :: r => .cons (.str _) (dp_map_str f r)

abbrev s__law_whole : Stmt := topS 32
abbrev N__law_whole : List Str := ["_law_word", "_law_low", "_law_high", "_law_sign"]
theorem sc__law_whole : FnScope N__law_whole ["_law_word", "_law_low", "_law_high"] (defScope s__law_whole) := ⟨rfl, rfl, rfl, by decide +kernel, rfl, by decide +kernel, by decide +kernel⟩
def sp__law_whole (K : PySem.W.Frag) (c : Ad) : Sp := fun vs H Q E => arg3 (fun v lo hi => ∃ z a b, v = .str z ∧ lo = .int a ∧ hi = .int b ∧ z.length ≤ 100000 ∧ sOk z ∧ b ≤ 1000000 ∧ Wf H ∧ Q (optI (wholeL z a b)) H) vs
theorem ok__law_whole {P : Program} {w : World} {K : PySem.W.Frag} {mg : Str → Option Value} {base : Heap} {c : Ad} (T : Txt K mg c) : Ok P w K mg base 1 "_law_whole" ["_law_word", "_law_low", "_law_high"] (sp__law_whole K c) := by
  refine okF T.f__law_whole sc__law_whole (fun vs H Q E h => ?_) (fun f cdv A outer sh H vs Q E hr h => ?_)
  · obtain ⟨v, lo, hi, rfl, h⟩ := arg3.ex h
    rfl
  · obtain ⟨v, lo, hi, rfl, h⟩ := arg3.ex h
    have tk : Takes (cxOf (L2.CX P w) P w K mg base N__law_whole "_law_whole" (defScope s__law_whole) f cdv A outer sh H (bE H E)) (fun cls d _ H' => bE H E cls d H') := takes_of rfl rfl rfl rfl
    refine ⟨_, pss_cons (ps_if (PW.pt (pw_or (pt_cmpU (opU_eq (K := K) hr) (lv 0) pe_str (nomark _)) (pw_or (pt_cmpU opU_gt (pe_callB (callU_len (K := K)) (by rfl) T.m_len (by decide +kernel) (pa_cons (lv 0) pa_nil)) pe_int (nomark _)) (pw_or1 (pt_cmpU (opU_ne (K := K) hr) (pe_lc (own := [("_law_sign", 3)]) (g := gName 3) rfl sc__law_whole.nd (pi_str (lv 0)) (blkOk_by (own := [("_law_sign", 3)]) (N := N__law_whole) (sc := defScope s__law_whole) (by decide +kernel)) (fun _ _ _ _ _ => pg_name (i := 3) sc__law_whole.nd rfl (.inl rfl)) (fun _ _ _ _ _ => pts_one (pt_not (pt_chainU opU_le opU_le pe_str (lv 3) pe_str))) (fun _ _ _ _ _ => lv 3)) (pe_lst pa_nil) (nomark _))))))
      (pss_one (ps_ret pe_non)) pss_nil)
      (pss_cons (ps_if (PW.pt (pw_or (PW.pt (pw_and (pt_cmpU (opU_eq (K := K) hr) (pe_ix (ixU (K := K)) (lv 0) pe_int (fun _ _ => rfl)) pe_str (nomark _)) (pw_and1 (pt_cmpU (opU_ne (K := K) hr) (lv 0) pe_str (nomark _))))) (pw_or1 (pt_not (pt_chainU opU_le opU_le (lv 1) (pe_callTy callU_int (by rfl) T.m_int (by decide +kernel) (pa_cons (lv 0) pa_nil)) (lv 2))))))
      (pss_one (ps_ret pe_non)) pss_nil)
      (pss_one (ps_ret (pe_callTy callU_int (by rfl) T.m_int (by decide +kernel) (pa_cons (lv 0) pa_nil))))), ?_⟩
    obtain ⟨z, a, b, rfl, rfl, rfl, hz, sz, hb, wf, k⟩ := h
    have lz : z.length ≤ sizeLine := line_of (Nat.le_trans hz (by decide))
    have nn : wholeL z a b = none → bQ H Q .non H := fun e => by
      rw [e] at k
      exact bQ.same wf (Same.refl _) k
    have nn2 : ∀ {H'}, Same H H' → wholeL z a b = none → bQ H Q .non H' := fun sm e => by
      rw [e] at k
      exact bQ.same wf sm k
    have el : z.cps.toList.length = z.length := Array.length_toList
    refine iteC (p := V.str z = V.str "") (fun h1 => ?_) (fun h1 => ?_)
    · cases h1
      exact nn (wholeL_none rfl)
    · have hz0 : 1 ≤ z.length := by
        rcases Nat.eq_zero_or_pos z.length with e | e
        · refine absurd ?_ h1
          have : z.cps.toList = [] := List.length_eq_zero_iff.mp (by omega)
          rw [← SX.S_tl z, this]
          rfl
        · exact e
      refine ⟨lz, ?_⟩
      refine iteC (p := (7 : Int) < z.length) (fun h2 => ?_) (fun h2 => ?_)
      · refine nn ?_
        cases e : wholeL z a b with
        | none => rfl
        | some n =>
          have q := wholeL_some e
          have := (num_ok (n := n) q.2.1 (by omega)).2.1
          rw [← q.1] at this
          omega
      · refine ⟨z, rfl, fun D nD => ?_⟩
        refine lc_filt (walk_str (z := z)) (fun i x => ∃ c, z.cps[i]? = some c ∧ x = .str ⟨#[c]⟩) (fun i H x H' h => h) (fun i => .str ⟨#[z.cps.toList.getD i 0]⟩) (fun i => !decide (z.cps.toList.getD i 0 ∈ figs)) (line_lt (Nat.lt_of_le_of_lt hz (by decide))) (fun _ => trivial) (fun i x acc C Cn hi hx hC hCn => ?_) ?_
        · obtain ⟨c, hc, rfl⟩ := hx
          have e : z.cps.toList.getD i 0 = c := by simp [hc]
          rw [e] at hC hCn
          refine ⟨rfl, ?_⟩
          have nf : ¬ c ∈ figs → (!decide (c ∈ figs)) = true := fun n => by rw [decide_eq_false n]; rfl
          have yf : c ∈ figs → (!decide (c ∈ figs)) = false := fun n => by rw [decide_eq_true n]; rfl
          refine iteB (c := !decide (([c] : List Nat) < [48])) (fun g1 => ?_) (fun g1 => ?_)
          · have g1' := nd_t g1
            rw [lt_one] at g1'
            refine iteB (c := !(!decide (([57] : List Nat) < [c]))) (fun g2 => ?_) (fun g2 => ?_)
            · have g2' : ([57] : List Nat) < [c] := by simpa using g2
              rw [lt_one] at g2'
              refine hC (nf fun m => ?_)
              have := figs_iff.mp m
              omega
            · have g2' : ¬ ([57] : List Nat) < [c] := by simpa using g2
              rw [lt_one] at g2'
              exact hCn (yf (figs_iff.mpr (by omega)))
          · have g1' := nd_f g1
            rw [lt_one] at g1'
            refine hC (nf fun m => ?_)
            have := figs_iff.mp m
            omega
        · have hzs : (((List.range z.cps.size).filter fun i => !decide (z.cps.toList.getD i 0 ∈ figs)).map fun i => V.str (⟨#[z.cps.toList.getD i 0]⟩ : Str)) = ((((List.range z.cps.size).filter fun i => !decide (z.cps.toList.getD i 0 ∈ figs)).map fun i => (⟨#[z.cps.toList.getD i 0]⟩ : Str)).map V.str) := by
            rw [List.map_map]
            rfl
          have hso : ∀ y ∈ (((List.range z.cps.size).filter fun i => !decide (z.cps.toList.getD i 0 ∈ figs)).map fun i => (⟨#[z.cps.toList.getD i 0]⟩ : Str)), sOk y := fun y hy => by
            obtain ⟨i, hi, rfl⟩ := List.mem_map.mp hy
            have := List.mem_range.mp (List.mem_filter.mp hi).1
            refine sOk_one (sOk_iff.mp sz _ ?_)
            have h3 : i < z.cps.toList.length := by rw [el]; exact this
            rw [List.getD_eq_getElem?_getD, List.getElem?_eq_getElem h3]
            exact List.getElem_mem h3
          have hem : (((List.range z.cps.size).filter fun i => !decide (z.cps.toList.getD i 0 ∈ figs)).map fun i => (⟨#[z.cps.toList.getD i 0]⟩ : Str)).isEmpty = figB z := by
            rw [Bool.eq_iff_iff, List.isEmpty_iff, filt_none]
            unfold figB
            rw [List.all_eq_true]
            refine ⟨fun h c hc => ?_, fun h i hi => ?_⟩
            · obtain ⟨i, hi, rfl⟩ := List.getElem_of_mem hc
              have := h i (by rw [el] at hi; exact hi)
              rw [List.getD_eq_getElem?_getD, List.getElem?_eq_getElem hi] at this
              simpa using this
            · have h3 : i < z.cps.toList.length := by rw [el]; exact hi
              have := h z.cps.toList[i] (List.getElem_mem h3)
              rw [List.getD_eq_getElem?_getD, List.getElem?_eq_getElem h3]
              simpa using this
          rw [hzs]
          generalize (((List.range z.cps.size).filter fun i => !decide (z.cps.toList.getD i 0 ∈ figs)).map fun i => (⟨#[z.cps.toList.getD i 0]⟩ : Str)) = zs at hso hem ⊢
          have sm := same_new (o := .lst (zs.map V.str)) nD
          have w1 := wf.new (o := .lst (zs.map V.str)) trivial nD
          have eD : (upd H D (.lst (zs.map V.str))) D = some (.lst (zs.map V.str)) := upd_same
          generalize upd H D (.lst (zs.map V.str)) = H1 at sm w1 eD ⊢
          refine ⟨line_of (show 0 ≤ 16777216 by decide), fun e ne => ?_⟩
          have sm2 := sm.trans (same_new (o := .lst []) ne)
          have w2 := w1.new (o := .lst []) trivial ne
          refine ⟨.list (zs.map .str), .list [], .lst (.inl (.inl (same_new ne _ _ eD))) (dp_strs zs), .lst (.inl (.inl upd_same)) .nil, shape_strs hso, rfl, ?_⟩
          have e3 : PyData.eqv (.list (zs.map .str)) (.list []) = figB z := by rw [← hem]; cases zs <;> rfl
          rw [e3]
          generalize upd H1 e (.lst []) = H2 at sm2 w2 ⊢
          refine iteB (c := !figB z) (fun g => ?_) (fun g => ?_)
          · refine nn2 sm2 (wholeL_none ?_)
            unfold wholeO
            rw [not_b g, Bool.and_false, Bool.false_and]
            rfl
          · have g' := not_b' g
            obtain ⟨n, hn⟩ := int_figs g' (by omega) (by omega)
            obtain ⟨c0, e0⟩ : ∃ c0, z.cps.toList[0]? = some c0 := ⟨_, List.getElem?_eq_getElem (by rw [el]; omega)⟩
            have st : Txt.startswith z "0" = decide (c0 = 48) := by
              have : Txt.startswith z "0" = (z.cps.toList[0]? == some 48) := starts_one
              rw [this, e0]
              by_cases h : c0 = 48 <;> simp [h]
            refine ⟨lz, c0, atI_nat (j := 0) e0, ?_⟩
            have wo : wholeO z = if decide (1 < (z.length : Int)) && decide (c0 = 48) then none else some n := by
              unfold wholeO
              rw [g', st, decide_eq_true (show 1 ≤ (z.length : Int) by omega), decide_eq_true (show (z.length : Int) ≤ 13 by omega), hn]
              cases decide (1 < (z.length : Int)) && decide (c0 = 48) <;> rfl
            have fin : (decide (1 < (z.length : Int)) && decide (c0 = 48)) = false → wholeL z a b = if decide (a ≤ n) && decide (n ≤ b) then some n else none := fun e => by
              unfold wholeL
              rw [wo, e]
              rfl
            have hi : (z.length : Nat) ≤ 640 := by omega
            by_cases hA : (decide (1 < (z.length : Int)) && decide (c0 = 48)) = true
            · have hA2 := hA
              rw [Bool.and_eq_true, decide_eq_true_eq, decide_eq_true_eq] at hA2
              obtain ⟨hl, e48⟩ := hA2
              have wn : wholeL z a b = none := wholeL_none (by rw [wo, if_pos hA])
              refine iteC (p := V.str ⟨#[c0]⟩ = V.str "0") (fun _ => ?_) (fun q => absurd (by rw [e48]; decide +kernel) q)
              refine iteB (c := !decide (V.str z = V.str "0")) (fun _ => nn2 sm2 wn) (fun q => ?_)
              have := V.str.inj (nd_f q)
              rw [this] at hl
              exact absurd hl (by decide +kernel)
            · have hA' : (decide (1 < (z.length : Int)) && decide (c0 = 48)) = false := by simpa using hA
              have fi := fin hA'
              refine iteC (p := V.str ⟨#[c0]⟩ = V.str "0") (fun h4 => iteB (c := !decide (V.str z = V.str "0")) (fun q => ?_) (fun q => ?_)) (fun h4 => ?_)
              · exfalso
                have : c0 = 48 := by
                  have := V.str.inj h4
                  have := congrArg (fun x : Str => x.cps.toList) this
                  have e48 : ("0" : Str).cps.toList = [48] := by decide +kernel
                  rw [e48] at this
                  simpa using this
                subst this
                refine nd_t q ?_
                have l1 : z.cps.toList.length = 1 := by
                  rw [el]
                  have : ¬ (1 < (z.length : Int)) := fun y => by
                    rw [decide_eq_true y] at hA'
                    cases hA'
                  omega
                have : z.cps.toList = [48] := by
                  match hz5 : z.cps.toList, l1, e0 with
                  | [x], _, e0 => simpa using e0
                rw [← SX.S_tl z, this]
                decide +kernel
              all_goals
                refine ⟨n, hn, hi, ?_⟩
                refine iteC (p := a ≤ n) (fun h5 => ?_) (fun h5 => ?_)
                · refine iteB (c := !decide (n ≤ b)) (fun h6 => ?_) (fun h6 => ?_)
                  · refine nn2 sm2 ?_
                    rw [fi, decide_eq_false (nd_t h6), Bool.and_false]
                    rfl
                  · refine ⟨n, hn, hi, bQ.same wf sm2 ?_⟩
                    rw [fi, decide_eq_true h5, decide_eq_true (nd_f h6)] at k
                    exact k
                · refine nn2 sm2 ?_
                  rw [fi, decide_eq_false h5]
                  rfl

theorem spl_mem {c x : Nat} : ∀ (l acc : List Nat) {p : List Nat}, p ∈ TL.spl [c] 0 acc l → x ∈ p → x ∈ acc ∨ x ∈ l
  | [], acc, p, hp, hx => by
    rw [TL.spl_nil] at hp
    rw [List.mem_singleton.mp hp] at hx
    exact .inl hx
  | y :: r, acc, p, hp, hx => by
    cases h : TL.pre [c] (y :: r) with
    | true =>
      rw [TL.spl_hit h] at hp
      rcases List.mem_cons.mp hp with rfl | hp
      · exact .inl hx
      · rcases spl_mem r [] hp hx with h | h
        · cases h
        · exact .inr (List.mem_cons_of_mem _ h)
    | false =>
      rw [TL.spl_miss h] at hp
      rcases spl_mem r _ hp hx with h | h
      · rcases List.mem_append.mp h with h | h
        · exact .inl h
        · rw [List.mem_singleton.mp h]
          exact .inr List.mem_cons_self
      · exact .inr (List.mem_cons_of_mem _ h)
theorem split_ok {z w : Str} {c : Nat} (hc : c < 256) (h : sOk z) (hw : w ∈ Txt.split z (SX.S [c])) : sOk w := by
  have e : Txt.split z (SX.S [c]) = (TL.spl [c] 0 [] z.cps.toList).map SX.S := by
    have := SX.split_S (a := z.cps.toList) (b := [c]) (by simp) (by simpa using hc)
    rw [SX.S_tl] at this
    exact this
  rw [e] at hw
  obtain ⟨p, hp, rfl⟩ := List.mem_map.mp hw
  rw [sOk_iff] at h ⊢
  intro x hx
  rcases spl_mem _ _ hp hx with h2 | h2
  · cases h2
  · exact h x h2
theorem any_none (os : List (Option Int)) : inV .non (os.map optI) = os.any (·.isNone) := by
  unfold inV
  rw [List.any_map]
  congr 1
  funext o
  cases o <;> rfl

abbrev s__law_read : Stmt := topS 33
abbrev N__law_read : List Str := ["_law_text_here", "_law_words", "_law_pauses", "_law_rule_here", "_law_part"]
theorem sc__law_read : FnScope N__law_read ["_law_text_here"] (defScope s__law_read) := ⟨rfl, rfl, rfl, by decide +kernel, rfl, by decide +kernel, by decide +kernel⟩
def sp__law_read (K : PySem.W.Frag) (c : Ad) : Sp := fun vs H Q E => arg1 (fun v => ∃ z, v = .str z ∧ z.length ≤ 100000 ∧ sOk z ∧ Wf H ∧ (readD z = none → Q .non H) ∧ ∀ d q H', readD z = some d → Dp K H' (.ref q) d → Same H H' → Wf H' → Q (.ref q) H') vs
theorem ok__law_read {P : Program} {w : World} {K : PySem.W.Frag} {mg : Str → Option Value} {base : Heap} {c : Ad} (T : Txt K mg c) : Ok P w K mg base 2 "_law_read" ["_law_text_here"] (sp__law_read K c) := by
  refine okF T.f__law_read sc__law_read (fun vs H Q E h => ?_) (fun f cdv A outer sh H vs Q E hr h => ?_)
  · obtain ⟨v, rfl, h⟩ := arg1.ex h
    rfl
  · obtain ⟨v, rfl, h⟩ := arg1.ex h
    have tk : Takes (cxOf (L2.CX P w) P w K mg base N__law_read "_law_read" (defScope s__law_read) f cdv A outer sh H (bE H E)) (fun cls d _ H' => bE H E cls d H') := takes_of rfl rfl rfl rfl
    refine ⟨_, pss_cons (ps_set (i := 1) sc__law_read.nd rfl (.inl rfl) (pe_split (lv 0) pe_str))
      (pss_cons (ps_if (PW.pt (pw_or (pt_cmpU (opU_ne (K := K) hr) (pe_callB (callU_len (K := K)) (by rfl) T.m_len (by decide +kernel) (pa_cons (lv 1) pa_nil)) pe_int (nomark _)) (pw_or1 (pt_cmpU (opU_notin (K := K)) (pe_ix (ixU (K := K)) (lv 1) pe_int (fun _ _ => rfl)) (pe_lst (pa_cons pe_str (pa_cons pe_str pa_nil))) (by rfl)))))
      (pss_one (ps_ret pe_non)) pss_nil)
      (pss_cons (ps_set (i := 2) sc__law_read.nd rfl (.inl rfl) (pe_lst pa_nil))
      (pss_cons (ps_cut (ps_if (pt_cmpU (opU_ne (K := K) hr) (pe_ix (ixU (K := K)) (lv 1) pe_int (fun _ _ => rfl)) pe_str (nomark _))
      (pss_one (ps_setLc (i := 2) (own := [("_law_part", 4)]) (g := gName 4) rfl sc__law_read.nd rfl rfl (sw_true rfl rfl rfl (by decide +kernel)) (pi_listK (K := K) (pe_split (pe_ix (ixU (K := K)) (lv 1) pe_int (fun _ _ => rfl)) pe_str)) (blkOk_by (own := [("_law_part", 4)]) (N := N__law_read) (sc := defScope s__law_read) (by decide +kernel)) (fun _ _ _ _ _ => pg_name (i := 4) sc__law_read.nd rfl (.inl rfl)) (fun _ _ _ _ _ => pts_nil) (fun _ _ _ _ _ => pe_f (ok__law_whole (K := K) T) hr passL (pa_cons (lv 4) (pa_cons pe_int (pa_cons (pe_op opU_pow pe_int pe_int) pa_nil)))))) pss_nil))
      (pss_cons (ps_set (i := 3) sc__law_read.nd rfl (.inl rfl) (pe_tup (pa_cons (pe_ix (ixU (K := K)) (lv 1) pe_int (fun _ _ => rfl)) (pa_cons (pe_f (ok__law_whole (K := K) T) hr passL (pa_cons (pe_ix (ixU (K := K)) (lv 1) pe_int (fun _ _ => rfl)) (pa_cons pe_int (pa_cons pe_int pa_nil)))) (pa_cons (pe_f (ok__law_whole (K := K) T) hr passL (pa_cons (pe_ix (ixU (K := K)) (lv 1) pe_int (fun _ _ => rfl)) (pa_cons pe_int (pa_cons (pe_op opU_pow pe_int pe_int) pa_nil)))) (pa_cons (pe_callTy (callU_tuple (K := K)) (by rfl) T.m_tuple (by decide +kernel) (pa_cons (lv 2) pa_nil)) pa_nil))))))
      (pss_cons (ps_set (i := 3) sc__law_read.nd rfl (.inl rfl) (pe_op (opU_add (K := K)) (lv 3) (pe_tup (pa_cons (pe_f (ok__law_whole (K := K) T) hr passL (pa_cons (pe_ix (ixU (K := K)) (lv 1) pe_int (fun _ _ => rfl)) (pa_cons pe_int (pa_cons pe_int pa_nil)))) pa_nil))))
      (pss_cons (ps_if (PW.pt (pw_or (pt_cmpU (opU_inD (K := K) hr) pe_non (lv 3) (by rfl)) (pw_or (pt_cmpU (opU_in (K := K)) pe_non (lv 2) (by rfl)) (pw_or1 (pt_cmpU opU_gt (pe_callB (callU_len (K := K)) (by rfl) T.m_len (by decide +kernel) (pa_cons (lv 2) pa_nil)) pe_int (nomark _))))))
      (pss_one (ps_ret pe_non)) pss_nil)
      (pss_one (ps_ret (lv 3))))))))), ?_⟩
    obtain ⟨z, rfl, hz, sz, wf, k0, k1⟩ := h
    have hs := split_parts (z := z) (c := 32) (by decide)
    have hso : ∀ w ∈ Txt.split z blank, sOk w := fun w hw => split_ok (by decide) sz hw
    refine ⟨⟨_, rfl⟩, _, _, rfl, rfl, rfl, line_of (by omega), fun p np => ?_⟩
    have e0 : Txt.split z (PySem.Str.ofString " ") = Txt.split z blank := rfl
    rw [e0]
    have sm1 := same_new (o := .lst ((Txt.split z blank).map V.str)) np
    have ep : (upd H p (.lst ((Txt.split z blank).map V.str))) p = some (.lst ((Txt.split z blank).map V.str)) := upd_same
    have w1 := wf.new (o := .lst ((Txt.split z blank).map V.str)) trivial np
    generalize upd H p (.lst ((Txt.split z blank).map V.str)) = H1 at sm1 ep w1 ⊢
    unfold readD at k0 k1
    have hw := hs.1
    generalize Txt.split z blank = ws at ep k0 k1 hso hw ⊢
    refine .inl ⟨_, .inl (.inl (.inl ep)), ?_⟩
    refine iteB (c := !decide (V.int (ws.map V.str).length = V.int 5)) (fun h1 => ?_) (fun h1 => ?_)
    · exact bQ.same wf sm1 (k0 (rof_len fun e => nd_t h1 (by rw [List.length_map, e]; rfl)))
    have h5 : ws.length = 5 := by
      have := V.int.inj (nd_f h1)
      rw [List.length_map] at this
      omega
    obtain ⟨a, b, d, e, f, rfl⟩ := five h5
    rw [rof_five] at k0 k1
    refine ⟨_, _, .inl (.inl (.inl ep)), rfl, ?_⟩
    refine ⟨line_of (show 2 ≤ 16777216 by decide), fun x nx => ?_⟩
    have sm2 := sm1.trans (same_new (o := .lst [.str "put", .str "turns"]) nx)
    have w2 := w1.new (o := .lst [.str "put", .str "turns"]) trivial nx
    have ep2 := same_new (o := .lst [.str "put", .str "turns"]) nx _ _ ep
    refine ⟨_, .inl (.inl (.inl upd_same)), rfl, rfl, ?_⟩
    generalize upd H1 x (.lst [.str "put", .str "turns"]) = H2 at sm2 w2 ep2 ⊢
    have e00 : inV (.str a) [.str "put", .str "turns"] = isOrderD (.str a) := rfl
    rw [e00]
    refine iteB (c := !isOrderD (.str a)) (fun o => ?_) (fun o => ?_)
    · refine bQ.same wf sm2 (k0 ?_)
      unfold goodL
      rw [not_b o]
      rfl
    have o' := not_b' o
    refine ⟨line_of (show 0 ≤ 16777216 by decide), fun y ny => ?_⟩
    have sm3 := sm2.trans (same_new (o := .lst []) ny)
    have w3 := w2.new (o := .lst []) trivial ny
    have ep3 := same_new (o := .lst []) ny _ _ ep2
    have ey : (upd H2 y (.lst [])) y = some (.lst []) := upd_same
    generalize upd H2 y (.lst []) = H3 at sm3 w3 ep3 ey ⊢
    have hparts : ((partsO e).length : Int) ≤ 200000 := by
      unfold partsO
      split
      · decide
      · have := (split_parts (z := e) (c := 44) (by decide)).2
        have := hw e (by simp)
        have : (Txt.split e comma).length ≤ e.length + 1 := (split_parts (z := e) (c := 44) (by decide)).2
        omega
    have e6 : (10 : Int) ^ Int.toNat 6 = 1000000 := by decide
    refine ⟨fun σ' H' => ∃ y, σ' = [some (.str z), some (.ref p), some (.ref y), none, none] ∧ H' y = some (.lst ((partsO e).map fun w => optI (wholeL w 0 1000000))) ∧ Same H3 H' ∧ Wf H', ?_, ?_⟩
    · refine ⟨_, _, .inl (.inl (.inl ep3)), rfl, ?_⟩
      refine iteB (c := !decide (V.str e = V.str "-")) (fun g => ?_) (fun g => ?_)
      · have g' : ¬ e = "-" := fun q => nd_t g (by rw [q])
        have ee : partsO e = Txt.split e comma := if_neg g'
        have he := split_parts (z := e) (c := 44) (by decide)
        have heo : ∀ w ∈ Txt.split e comma, sOk w := fun w hw' => split_ok (by decide) (hso e (by simp)) hw'
        have hle := hw e (by simp)
        refine ⟨_, _, .inl (.inl (.inl ep3)), rfl, ⟨_, rfl⟩, _, _, rfl, rfl, rfl, line_of (by omega), fun r nr => ?_⟩
        have hg : upd H3 r (.lst ((Txt.split e (PySem.Str.ofString ",")).map V.str)) = upd H3 r (.lst ((partsO e).map V.str)) := by rw [ee]; rfl
        rw [hg]
        rw [← show Txt.split e comma = Txt.split e (SX.S [44]) from rfl, ← ee] at he
        rw [← ee] at heo
        generalize partsO e = es at he heo hparts ⊢
        have smr := same_new (o := .lst (es.map V.str)) nr
        have er : (upd H3 r (.lst (es.map V.str))) r = some (.lst (es.map V.str)) := upd_same
        have wr := w3.new (o := .lst (es.map V.str)) trivial nr
        generalize upd H3 r (.lst (es.map V.str)) = H4 at smr er wr ⊢
        refine ⟨r, rfl, ⟨_, .inl (.inl er)⟩, fun D nD => ?_⟩
        have hD : ∀ o, Same H4 (upd H4 D o) := fun o => same_new nD
        refine lc_map (walk_list (K := K) (a := r) (xs := es.map V.str)) (fun i x => (es.map V.str)[i]? = some x) (fun i H x H' h => h) (fun i => optI (wholeL (es.getD i "") 0 1000000)) (line_lt (by rw [List.length_map]; omega)) (fun o => .inl (.inl (hD o _ _ er))) (fun i x acc C hi hx hC => ?_) ?_
        · rw [List.getElem?_map] at hx
          have hi2 : i < es.length := by rwa [List.length_map] at hi
          rw [List.getElem?_eq_getElem hi2] at hx
          cases hx
          have e : es.getD i "" = es[i] := by
            rw [List.getD_eq_getElem?_getD, List.getElem?_eq_getElem hi2]
            rfl
          rw [e] at hC
          have := he.1 es[i] (List.getElem_mem hi2)
          exact ⟨rfl, ⟨by decide, by decide, by decide⟩, _, 0, 1000000, rfl, rfl, congrArg V.int e6, by omega, heo _ (List.getElem_mem hi2), by decide, wr.new trivial nD, hC⟩
        · have e2 : (List.range (es.map V.str).length).map (fun i => optI (wholeL (es.getD i "") 0 1000000)) = es.map fun w => optI (wholeL w 0 1000000) := by
            rw [List.length_map, R.range_getD es "" fun w => optI (wholeL w 0 1000000)]
          rw [e2]
          exact ⟨D, rfl, upd_same, smr.trans (hD _), wr.new trivial nD⟩
      · have g' : e = "-" := V.str.inj (nd_f g)
        refine ⟨y, rfl, ?_, Same.refl _, w3⟩
        have : partsO e = [] := by rw [g']; rfl
        rw [this]
        exact ey
    · rintro σ' H4 ⟨y2, rfl, ey4, sm4, w4⟩
      have ep4 := sm4 _ _ ep3
      replace sm4 := sm3.trans sm4
      refine ⟨_, _, .inl (.inl (.inl ep4)), rfl, ?_⟩
      refine ⟨_, _, .inl (.inl (.inl ep4)), rfl, b, 1, 20, rfl, rfl, rfl, Nat.le_trans (hw b (by simp)) hz, hso b (by simp), by decide, w4, ?_⟩
      refine ⟨_, _, .inl (.inl (.inl ep4)), rfl, ⟨by decide, by decide, by decide⟩, d, 1, 1000000, rfl, rfl, congrArg V.int e6, Nat.le_trans (hw d (by simp)) hz, hso d (by simp), by decide, w4, ?_⟩
      refine ⟨_, .inl ⟨.inl (.inl ey4), fun t nt => ?_⟩⟩
      generalize hps : ((partsO e).map fun w => optI (wholeL w 0 1000000)) = ps at ey4 nt ⊢
      have sm5 := sm4.trans (same_new (o := .tup ps) nt)
      have w5 := w4.new (o := .tup ps) trivial nt
      have et : (upd H4 t (.tup ps)) t = some (.tup ps) := upd_same
      have ep5 := same_new (o := .tup ps) nt _ _ ep4
      have ey5 := same_new (o := .tup ps) nt _ _ ey4
      generalize upd H4 t (.tup ps) = H5 at sm5 w5 et ep5 ey5 ⊢
      refine ⟨line_of (show 4 ≤ 16777216 by decide), fun q nq => ?_⟩
      generalize hB : wholeL b 1 20 = B at nq ⊢
      generalize hC : wholeL d 1 1000000 = C at nq ⊢
      have sm6 := sm5.trans (same_new (o := .tup [.str a, optI B, optI C, .ref t]) nq)
      have w6 := w5.new (o := .tup [.str a, optI B, optI C, .ref t]) trivial nq
      have eq : (upd H5 q (.tup [.str a, optI B, optI C, .ref t])) q = some (.tup [.str a, optI B, optI C, .ref t]) := upd_same
      have ep6 := same_new (o := .tup [.str a, optI B, optI C, .ref t]) nq _ _ ep5
      have ey6 := same_new (o := .tup [.str a, optI B, optI C, .ref t]) nq _ _ ey5
      have et6 := same_new (o := .tup [.str a, optI B, optI C, .ref t]) nq _ _ et
      generalize upd H5 q (.tup [.str a, optI B, optI C, .ref t]) = H6 at sm6 w6 eq ep6 ey6 et6 ⊢
      refine ⟨_, _, .inl (.inl (.inl ep6)), rfl, f, 0, 200, rfl, rfl, rfl, Nat.le_trans (hw f (by simp)) hz, hso f (by simp), by decide, w6, ?_⟩
      generalize hF : wholeL f 0 200 = F
      refine ⟨line_of (show 1 ≤ 16777216 by decide), fun u nu => ?_⟩
      have sm7 := sm6.trans (same_new (o := .tup [optI F]) nu)
      have w7 := w6.new (o := .tup [optI F]) trivial nu
      have eu : (upd H6 u (.tup [optI F])) u = some (.tup [optI F]) := upd_same
      have eq7 := same_new (o := .tup [optI F]) nu _ _ eq
      have ey7 := same_new (o := .tup [optI F]) nu _ _ ey6
      have et7 := same_new (o := .tup [optI F]) nu _ _ et6
      generalize upd H6 u (.tup [optI F]) = H7 at sm7 w7 eq7 ey7 et7 eu ⊢
      refine .inr ⟨q, u, _, _, rfl, rfl, .inl (.inl eq7), .inl (.inl eu), by simp, line_of (show 5 ≤ 16777216 by decide), fun e => (by cases e), fun _ r nr => ?_⟩
      have sm8 := sm7.trans (same_new (o := .tup [.str a, optI B, optI C, .ref t, optI F]) nr)
      have w8 := w7.new (o := .tup [.str a, optI B, optI C, .ref t, optI F]) trivial nr
      have er : (upd H7 r (.tup ([.str a, optI B, optI C, .ref t] ++ [optI F]))) r = some (.tup [.str a, optI B, optI C, .ref t, optI F]) := upd_same
      have ey8 := same_new (o := .tup [.str a, optI B, optI C, .ref t, optI F]) nr _ _ ey7
      have et8 := same_new (o := .tup [.str a, optI B, optI C, .ref t, optI F]) nr _ _ et7
      have hg8 : upd H7 r (.tup ([.str a, optI B, optI C, .ref t] ++ [optI F])) = upd H7 r (.tup [.str a, optI B, optI C, .ref t, optI F]) := rfl
      rw [hg8] at er ⊢
      generalize upd H7 r (.tup [.str a, optI B, optI C, .ref t, optI F]) = H8 at sm8 w8 er ey8 et8 ⊢
      have dps : ∀ (ws : List Str), DpAll K H8 (ws.map fun w => optI (wholeL w 0 1000000)) (ws.map fun w => optID (wholeL w 0 1000000)) := fun ws => by
        induction ws with
        | nil => exact .nil
        | cons w r ih => exact .cons (opti_dp _) ih
      have hd : Dp K H8 (.ref r) (ruleLD a b d e f) := by
        unfold ruleLD
        rw [hB, hC, hF]
        refine .tup (.inl (.inl er)) (.cons (.str a) (.cons (opti_dp B) (.cons (opti_dp C) (.cons (.tup (.inl (.inl et8)) ?_) (.cons (opti_dp F) .nil)))))
        rw [← hps]
        exact dps _
      have sa : PyData.strOk a = true := hso a (by simp)
      have hl1 : ∀ (ws : List Str), PyData.canLayAll0 (ws.map fun w => optID (wholeL w 0 1000000)) = true ∧ PyData.depthAll (ws.map fun w => optID (wholeL w 0 1000000)) = 0 := fun ws => by
        induction ws with
        | nil => exact ⟨rfl, rfl⟩
        | cons w r ih =>
          have h1 : (optID (wholeL w 0 1000000)).canLay0 = true ∧ (optID (wholeL w 0 1000000)).depth = 0 := by cases wholeL w 0 1000000 <;> exact ⟨rfl, rfl⟩
          refine ⟨?_, ?_⟩
          · show (_ && _) = true
            rw [h1.1, ih.1]
            rfl
          · show max _ _ = 0
            rw [h1.2, ih.2]
            rfl
      have od : ∀ o : Option Int, (optID o).canLay0 = true ∧ (optID o).depth = 0 := fun o => by cases o <;> exact ⟨rfl, rfl⟩
      have hsh : SeqAt.shaped (ruleLD a b d e f) = true := by
        unfold SeqAt.shaped ruleLD
        simp [PyData.canLay0, PyData.canLayAll0, PyData.depth, PyData.depthAll, sa, hl1, od]
      refine ⟨.none, _, .non, .inr ⟨hd, hsh⟩, rfl, ?_⟩
      have anyv : (([.str a, optID (wholeL b 1 20), optID (wholeL d 1 1000000), .tuple ((partsO e).map fun w => optID (wholeL w 0 1000000)), optID (wholeL f 0 200)] : List PyData).any fun z => PyData.eqv z .none) = (B.isNone || C.isNone || F.isNone) := by
        rw [hB, hC, hF]
        cases B <;> cases C <;> cases F <;> rfl
      rw [anyv]
      have gl : goodL a b d e f = (isOrderD (.str a) && B.isSome && C.isSome && decide (((partsO e).length : Int) ≤ 10) && ((partsO e).all fun w => (wholeL w 0 1000000).isSome) && F.isSome) := by
        unfold goodL
        rw [hB, hC, hF]
      have nob : goodL a b d e f = false → bQ H Q .non H8 := fun g => by
        rw [g] at k0
        exact bQ.same wf sm8 (k0 rfl)
      refine iteB (c := false != (B.isNone || C.isNone || F.isNone)) (fun h => ?_) (fun h => ?_)
      · refine nob ?_
        rw [gl]
        cases B <;> cases C <;> cases F <;> first | (cases h; done) | simp
      · obtain ⟨hB1, hC1, hF1⟩ : B.isSome = true ∧ C.isSome = true ∧ F.isSome = true := by
          cases B <;> cases C <;> cases F <;> first | exact ⟨rfl, rfl, rfl⟩ | (exfalso; simp at h)
        have hps2 : ps = ((partsO e).map fun w => wholeL w 0 1000000).map optI := by rw [← hps, List.map_map]; rfl
        have fl : ps.all flatV = true := by
          rw [hps2, List.all_map, List.all_eq_true]
          intro o _
          cases o <;> rfl
        refine ⟨_, .inl (.inl (.inl ey8)), rfl, fl, ?_⟩
        have e9 : inV .non ps = ((partsO e).map fun w => wholeL w 0 1000000).any (·.isNone) := by rw [hps2, any_none]
        rw [e9]
        refine iteB (c := ((partsO e).map fun w => wholeL w 0 1000000).any (·.isNone)) (fun h2 => ?_) (fun h2 => ?_)
        · refine nob ?_
          rw [gl]
          have : ((partsO e).all fun w => (wholeL w 0 1000000).isSome) = false := by
            rw [List.any_map, List.any_eq_true] at h2
            obtain ⟨w, hw1, hw2⟩ := h2
            rw [List.all_eq_false]
            refine ⟨w, hw1, ?_⟩
            revert hw2
            show (wholeL w 0 1000000).isNone = true → _
            cases wholeL w 0 1000000 <;> simp
          rw [this, Bool.and_false, Bool.false_and]
        · have hall : ((partsO e).all fun w => (wholeL w 0 1000000).isSome) = true := by
            rw [List.all_eq_true]
            intro w hw1
            rw [List.any_map, List.any_eq_false] at h2
            have := h2 w hw1
            revert this
            show ¬ (wholeL w 0 1000000).isNone = true → _
            cases wholeL w 0 1000000 <;> simp
          have lp : ps.length = (partsO e).length := by rw [← hps, List.length_map]
          refine .inl ⟨_, .inl (.inl (.inl ey8)), ?_⟩
          refine iteC (p := (10 : Int) < ps.length) (fun h3 => ?_) (fun h3 => ?_)
          · refine nob ?_
            rw [gl, decide_eq_false (by omega), Bool.and_false, Bool.false_and, Bool.false_and]
          · have gt : goodL a b d e f = true := by
              rw [gl, o', hB1, hC1, hF1, hall, decide_eq_true (by omega)]
              rfl
            rw [gt] at k1
            exact bQ.mk w8 (k1 _ _ _ rfl hd sm8 w8)

theorem spl_mu {c : Nat} : ∀ (l acc : List Nat), ((TL.spl [c] 0 acc l).map fun p => p.length + 1).sum = acc.length + l.length + 1
  | [], acc => by
    rw [TL.spl_nil]
    simp
  | x :: r, acc => by
    cases h : TL.pre [c] (x :: r) with
    | true =>
      rw [TL.spl_hit h]
      have := spl_mu (c := c) r []
      simp only [List.length_nil, List.length_singleton, Nat.sub_self, Nat.zero_add] at this
      rw [List.map_cons, List.sum_cons]
      show acc.length + 1 + ((TL.spl [c] 0 [] r).map fun p => p.length + 1).sum = _
      rw [this, List.length_cons]
      omega
    | false =>
      rw [TL.spl_miss h, spl_mu r _]
      simp
      omega
theorem split_mu (z : Str) : mu (Txt.split z blank) = z.length + 1 := by
  have e : Txt.split z (SX.S [32]) = (TL.spl [32] 0 [] z.cps.toList).map SX.S := by
    have := SX.split_S (a := z.cps.toList) (b := [32]) (by simp) (by decide)
    rw [SX.S_tl] at this
    exact this
  have hl : z.cps.toList.length = z.length := Array.length_toList
  show mu (Txt.split z (SX.S [32])) = _
  rw [e]
  unfold mu
  rw [List.map_map]
  have : ((fun w : Str => w.length + 1) ∘ SX.S) = fun p : List Nat => p.length + 1 := by
    funext p
    show (SX.S p).length + 1 = _
    rw [SX.S_len]
  rw [this, spl_mu, hl]
  simp
theorem join_mu (ws : List Str) : (Txt.join blank ws).length ≤ mu ws := by
  rw [mu_sum]
  have h1 : (Txt.join blank ws).length ≤ (ws.map (·.length)).sum + ws.length * (blank : Str).length := by
    rw [show Txt.join blank ws = PySem.Str.join blank ws from StrLaws.glued_eq_join ..]
    exact StrLaws.join_length_le _ _
  have e2 : (blank : Str).length = 1 := by decide +kernel
  rw [e2] at h1
  omega
theorem join_ok {ws : List Str} (h : ∀ w ∈ ws, sOk w) : sOk (Txt.join blank ws) := by
  rw [join_eq, sOk_iff]
  intro c hc
  rcases joinL_mem hc with hc | ⟨p, hp, hc⟩
  · rw [List.mem_singleton.mp hc]
    decide
  · obtain ⟨w, hw, rfl⟩ := List.mem_map.mp hp
    exact sOk_iff.mp (h w hw) c hc
abbrev SpP (K : PySem.W.Frag) (s v : V) (H : Hp) (Q : VK) : Prop := ∃ a z, s = .ref a ∧ v = .str z ∧ z.length ≤ 100000 ∧ sOk z ∧ St2 H a ∧ Wf H ∧ ∀ z' H', z'.length ≤ 4 * z.length + 100 → sOk z' → Dr a H H' → Q (.str z') H'
abbrev sgs : Str := PySem.Str.ofString " !\"#$&'()*+,-./0123456789:;<=>?@ABCDEFGHIJKLMNOPQRSTUVWXYZ[\\]^_`{|}~\n"
theorem sg_ok : sgs.length = 69 ∧ ∀ c ∈ sgs.cps.toList ++ (PySem.Str.ofString "abcdefghijklmnopqrstuvwxyz").cps.toList, c < 0x110000 := by decide +kernel
theorem n_ne {n : Int} (h : ¬ V.int n = V.int 0) : n ≠ 0 := fun e => h (by rw [e])

abbrev s__law_by_sign : Stmt := topS 34
abbrev N__law_by_sign : List Str := ["_law_state_here", "_law_text_here", "_law_way", "_law_signs", "_law_sign", "_law_at"]
theorem sc__law_by_sign : FnScope N__law_by_sign ["_law_state_here", "_law_text_here"] (defScope s__law_by_sign) := ⟨rfl, rfl, rfl, by decide +kernel, rfl, by decide +kernel, by decide +kernel⟩
def sp__law_by_sign (K : PySem.W.Frag) (c : Ad) : Sp := fun vs H Q E => arg2 (fun s v => SpP K s v H Q) vs
theorem ok__law_by_sign {P : Program} {w : World} {K : PySem.W.Frag} {mg : Str → Option Value} {base : Heap} {c : Ad} (T : Txt K mg c) : Ok P w K mg base 3 "_law_by_sign" ["_law_state_here", "_law_text_here"] (sp__law_by_sign K c) := by
  refine okF T.f__law_by_sign sc__law_by_sign (fun vs H Q E h => ?_) (fun f cdv A outer sh H vs Q E hr h => ?_)
  · obtain ⟨s, v, rfl, h⟩ := arg2.ex h
    rfl
  · obtain ⟨s, v, rfl, h⟩ := arg2.ex h
    have tk : Takes (cxOf (L2.CX P w) P w K mg base N__law_by_sign "_law_by_sign" (defScope s__law_by_sign) f cdv A outer sh H (bE H E)) (fun cls d _ H' => bE H E cls d H') := takes_of rfl rfl rfl rfl
    refine ⟨_, pss_cons (ps_set (i := 2) sc__law_by_sign.nd rfl (.inl rfl) (pe_f (ok__law_digit (K := K) T) hr passL (pa_cons (lv 0) (pa_cons pe_int pa_nil))))
      (pss_cons (ps_set (i := 3) sc__law_by_sign.nd rfl (.inl rfl) pe_str)
      (pss_cons (ps_set (i := 3) sc__law_by_sign.nd rfl (.inl rfl) (pe_op (opU_add (K := K)) (lv 3) pe_str))
      (pss_cons (ps_set (i := 4) sc__law_by_sign.nd rfl (.inl rfl) (pe_ix (ixU (K := K)) (lv 3) (pe_f (ok__law_digit (K := K) T) hr passL (pa_cons (lv 0) (pa_cons (pe_callB (callU_len (K := K)) (by rfl) T.m_len (by decide +kernel) (pa_cons (lv 3) pa_nil)) pa_nil))) (fun _ _ => rfl)))
      (pss_cons (ps_set (i := 5) sc__law_by_sign.nd rfl (.inl rfl) (pe_f (ok__law_digit (K := K) T) hr passL (pa_cons (lv 0) (pa_cons (pe_op (opU_add (K := K)) (pe_callB (callU_len (K := K)) (by rfl) T.m_len (by decide +kernel) (pa_cons (lv 1) pa_nil)) pe_int) pa_nil))))
      (pss_cons (ps_if (pt_cmpU (opU_eq (K := K) hr) (lv 2) pe_int (nomark _))
      (pss_one (ps_ret (pe_op (opU_add (K := K)) (pe_op (opU_add (K := K)) (pe_slice (slU (K := K)) (lv 1) po_none (po_someU (lv 5))) (lv 4)) (pe_slice (slU (K := K)) (lv 1) (po_someU (lv 5)) po_none)))) pss_nil)
      (pss_one (ps_ret (pe_op (opU_add (K := K)) (pe_op (opU_add (K := K)) (pe_slice (slU (K := K)) (lv 1) po_none (po_someU (lv 5))) (pe_ix (ixU (K := K)) (pe_lst (pa_cons pe_str (pa_cons (lv 4) pa_nil))) (pe_op opU_sub (lv 2) pe_int) (fun _ _ => rfl))) (pe_slice (slU (K := K)) (lv 1) (po_someU (pe_op (opU_add (K := K)) (lv 5) pe_int)) po_none))))))))), ?_⟩
    obtain ⟨a, z, rfl, rfl, hz, sz, s0, wf, k⟩ := h
    have d0 := Dr.refl s0 wf
    have lz : z.length ≤ sizeLine := line_of (by omega)
    refine ⟨a, 3, rfl, rfl, d0.st, bas_lt (by decide) (by decide), d0.wf, fun r1 p1 q1 g1 l1 n1 => ?_⟩
    have d1 := d0.drawn (q := q1) n1
    generalize upd H a (stL p1 q1) = H1 at d1  ⊢
    refine ⟨line_of (by decide +kernel), ?_⟩
    have hsg : ∀ c ∈ (sgs ++ PySem.Str.ofString "abcdefghijklmnopqrstuvwxyz").cps.toList, c < 0x110000 := fun c hc => by
      have e : (sgs ++ PySem.Str.ofString "abcdefghijklmnopqrstuvwxyz").cps.toList = sgs.cps.toList ++ (PySem.Str.ofString "abcdefghijklmnopqrstuvwxyz").cps.toList := TL.tl_append _ _
      rw [e] at hc
      exact sg_ok.2 c hc
    have hl : (sgs ++ PySem.Str.ofString "abcdefghijklmnopqrstuvwxyz").length = 95 := by decide +kernel
    generalize sgs ++ PySem.Str.ofString "abcdefghijklmnopqrstuvwxyz" = sg at hsg hl ⊢
    refine ⟨line_of (by omega), ?_⟩
    refine ⟨a, _, rfl, rfl, d1.st, bas_lt (by omega) (by omega), d1.wf, fun r2 p2 q2 g2 l2 n2 => ?_⟩
    have d2 := d1.drawn (q := q2) n2
    generalize upd H1 a (stL p2 q2) = H2 at d2  ⊢
    obtain ⟨x, hx, hm⟩ := at_lt (xs := sg.cps.toList) g2 (by rw [Array.length_toList]; exact l2)
    refine ⟨line_of (by omega), x, hx, ?_⟩
    have sx : sOk ⟨#[x]⟩ := sOk_one (hsg x hm)
    refine ⟨lz, ?_⟩
    refine ⟨a, _, rfl, rfl, d2.st, bas_lt (by omega) (by omega), d2.wf, fun r3 p3 q3 g3 l3 n3 => ?_⟩
    have d3 := d2.drawn (q := q3) n3
    generalize upd H2 a (stL p3 q3) = H3 at d3  ⊢
    have ln := PySem.Str.length_append
    have c1 : ∀ {lo hi}, (cutS z lo hi).length ≤ z.length := cutS_len
    have lx : (⟨#[x]⟩ : Str).length = 1 := rfl
    refine iteC (p := V.int r1 = V.int 0) (fun h1 => ?_) (fun h1 => ?_)
    · have q1 := c1 (lo := none) (hi := some r3)
      have q2 := c1 (lo := some r3) (hi := none)
      refine ⟨lz, line_of (by omega), lz, line_of (by rw [ln]; omega), ?_⟩
      exact bQ.mk d3.wf (k _ _ (by rw [ln, ln]; omega) (sOk_app (sOk_app (sOk_cut sz) sx) (sOk_cut sz)) d3)
    · refine ⟨lz, ?_⟩
      refine ⟨line_of (show 2 ≤ 16777216 by decide), fun y ny => ?_⟩
      have ney := st_ne d3.st ny
      have d4 := d3.new (p := y) (o := .lst [.str "", .str ⟨#[x]⟩]) ny trivial
      have ey : (upd H3 y (.lst [.str "", .str ⟨#[x]⟩])) y = some (.lst [.str "", .str ⟨#[x]⟩]) := upd_same
      generalize upd H3 y (.lst [.str "", .str ⟨#[x]⟩]) = H4 at d4 ey  ⊢
      obtain ⟨v, hv, mv⟩ := at_lt (xs := [V.str "", .str ⟨#[x]⟩]) (i := r1 - 1) (by have := n_ne h1; omega) (by simp; omega)
      refine ⟨_, v, .inl (.inl (.inl ey)), hv, ?_⟩
      obtain ⟨m, rfl, lm, sm⟩ : ∃ m, v = .str m ∧ m.length ≤ 1 ∧ sOk m := by
        simp only [List.mem_cons, List.not_mem_nil, or_false] at mv
        rcases mv with rfl | rfl
        · exact ⟨_, rfl, by decide, by decide +kernel⟩
        · exact ⟨_, rfl, by omega, sx⟩
      have q1 := c1 (lo := none) (hi := some r3)
      have q2 := c1 (lo := some (r3 + 1)) (hi := none)
      refine ⟨line_of (by omega), lz, line_of (by rw [ln]; omega), ?_⟩
      exact bQ.mk d4.wf (k _ _ (by rw [ln, ln]; omega) (sOk_app (sOk_app (sOk_cut sz) sm) (sOk_cut sz)) d4)

abbrev s__law_by_word : Stmt := topS 35
abbrev N__law_by_word : List Str := ["_law_state_here", "_law_text_here", "_law_way", "_law_words", "_law_at"]
theorem sc__law_by_word : FnScope N__law_by_word ["_law_state_here", "_law_text_here"] (defScope s__law_by_word) := ⟨rfl, rfl, rfl, by decide +kernel, rfl, by decide +kernel, by decide +kernel⟩
def sp__law_by_word (K : PySem.W.Frag) (c : Ad) : Sp := fun vs H Q E => arg2 (fun s v => SpP K s v H Q) vs
theorem ok__law_by_word {P : Program} {w : World} {K : PySem.W.Frag} {mg : Str → Option Value} {base : Heap} {c : Ad} (T : Txt K mg c) : Ok P w K mg base 3 "_law_by_word" ["_law_state_here", "_law_text_here"] (sp__law_by_word K c) := by
  refine okF T.f__law_by_word sc__law_by_word (fun vs H Q E h => ?_) (fun f cdv A outer sh H vs Q E hr h => ?_)
  · obtain ⟨s, v, rfl, h⟩ := arg2.ex h
    rfl
  · obtain ⟨s, v, rfl, h⟩ := arg2.ex h
    have tk : Takes (cxOf (L2.CX P w) P w K mg base N__law_by_word "_law_by_word" (defScope s__law_by_word) f cdv A outer sh H (bE H E)) (fun cls d _ H' => bE H E cls d H') := takes_of rfl rfl rfl rfl
    refine ⟨_, pss_cons (ps_set (i := 2) sc__law_by_word.nd rfl (.inl rfl) (pe_f (ok__law_digit (K := K) T) hr passL (pa_cons (lv 0) (pa_cons pe_int pa_nil))))
      (pss_cons (ps_set (i := 3) sc__law_by_word.nd rfl (.inl rfl) (pe_split (lv 1) pe_str))
      (pss_cons (ps_set (i := 4) sc__law_by_word.nd rfl (.inl rfl) (pe_f (ok__law_digit (K := K) T) hr passL (pa_cons (lv 0) (pa_cons (pe_callB (callU_len (K := K)) (by rfl) T.m_len (by decide +kernel) (pa_cons (lv 3) pa_nil)) pa_nil))))
      (pss_cons (ps_if (pt_cmpU (opU_eq (K := K) hr) (lv 2) pe_int (nomark _))
      (pss_one (ps_ret (pe_join pe_str (pe_op (opU_add (K := K)) (pe_slice (slU (K := K)) (lv 3) po_none (po_someU (lv 4))) (pe_slice (slU (K := K)) (lv 3) (po_someU (pe_op (opU_add (K := K)) (lv 4) pe_int)) po_none))))) pss_nil)
      (pss_cons (ps_if (pt_cmpU (opU_eq (K := K) hr) (lv 2) pe_int (nomark _))
      (pss_one (ps_ret (pe_join pe_str (pe_op (opU_add (K := K)) (pe_slice (slU (K := K)) (lv 3) po_none (po_someU (pe_op (opU_add (K := K)) (lv 4) pe_int))) (pe_slice (slU (K := K)) (lv 3) (po_someU (lv 4)) po_none))))) pss_nil)
      (pss_one (ps_ret (pe_join pe_str (pe_op (opU_add (K := K)) (pe_op (opU_add (K := K)) (pe_slice (slU (K := K)) (lv 3) po_none (po_someU (lv 4))) (pe_revK (K := K) (pe_slice (slU (K := K)) (lv 3) (po_someU (lv 4)) (po_someU (pe_op (opU_add (K := K)) (lv 4) pe_int))))) (pe_slice (slU (K := K)) (lv 3) (po_someU (pe_op (opU_add (K := K)) (lv 4) pe_int)) po_none))))))))), ?_⟩
    obtain ⟨a, z, rfl, rfl, hz, sz, s0, wf, k⟩ := h
    have d0 := Dr.refl s0 wf
    refine ⟨a, 3, rfl, rfl, d0.st, bas_lt (by decide) (by decide), d0.wf, fun r1 p1 q1 g1 l1 n1 => ?_⟩
    have d1 := d0.drawn (q := q1) n1
    generalize upd H a (stL p1 q1) = H1 at d1  ⊢
    have hs := split_parts (z := z) (c := 32) (by decide)
    have hso : ∀ w ∈ Txt.split z blank, sOk w := fun w hw => split_ok (by decide) sz hw
    have hmu := split_mu z
    have hne : Txt.split z blank ≠ [] := fun e => by rw [e] at hmu; simp [mu_nil] at hmu
    refine ⟨⟨_, rfl⟩, _, _, rfl, rfl, rfl, line_of (by omega), fun p np => ?_⟩
    have e0 : Txt.split z (PySem.Str.ofString " ") = Txt.split z blank := rfl
    rw [e0]
    have nep := st_ne d1.st np
    have d2 := d1.new (p := p) (o := .lst ((Txt.split z blank).map V.str)) np trivial
    have ep : (upd H1 p (.lst ((Txt.split z blank).map V.str))) p = some (.lst ((Txt.split z blank).map V.str)) := upd_same
    generalize Txt.split z blank = ws at hso hmu hne d2 ep ⊢
    generalize upd H1 p (.lst (ws.map V.str)) = H2 at d2 ep ⊢
    have hlw := mu_len ws
    have hl0 : 0 < ws.length := List.length_pos_iff.mpr hne
    have ew : ((ws.map V.str).length : Int) = ws.length := by rw [List.length_map]
    refine .inl ⟨_, .inl (.inl (.inl ep)), ?_⟩
    refine ⟨a, _, rfl, rfl, d2.st, bas_lt (by omega) (by omega), d2.wf, fun r3 p3 q3 g3 l3 n3 => ?_⟩
    have d3 := d2.drawn (q := q3) n3
    replace ep := (upd_ne (o := stL p3 q3) nep).trans ep
    generalize upd H2 a (stL p3 q3) = H3 at d3 ep ⊢
    have fin : ∀ (us : List Str) (H' : Hp), mu us ≤ 4 * z.length + 100 → (∀ w ∈ us, sOk w) → Dr a H H' → bQ H Q (.str (Txt.join blank us)) H' := fun us H' h1 h2 d => bQ.mk d.wf (k _ _ (Nat.le_trans (join_mu us) h1) (join_ok h2) d)
    have e1 : (PySem.Str.ofString " ").length = 1 := by decide +kernel
    have hsum : ∀ us : List Str, mu us ≤ 4 * z.length + 100 → (us.map fun w => w.length).sum + us.length * (PySem.Str.ofString " ").length ≤ 16777216 := fun us h => by
      rw [e1]
      have := mu_sum us
      omega
    refine iteC (p := V.int r1 = V.int 0) (fun h1 => ?_) (fun h1 => ?_)
    · refine ⟨⟨_, rfl⟩, ?_⟩
      obtain ⟨u1, hu1, mu1, su1⟩ := cut_strs ws none (some r3)
      obtain ⟨u2, hu2, mu2, su2⟩ := cut_strs ws (some (r3 + 1)) none
      refine .inl ⟨p, _, rfl, .inl (.inl ep), fun x nx => ?_⟩
      rw [hu1]
      have nex := st_ne d3.st nx
      have d4 := d3.new (p := x) (o := .lst (u1.map V.str)) nx trivial
      replace ep := same_new (o := .lst (u1.map V.str)) nx _ _ ep
      have ex : (upd H3 x (.lst (u1.map V.str))) x = some (.lst (u1.map V.str)) := upd_same
      generalize upd H3 x (.lst (u1.map V.str)) = H4 at d4 ex ep ⊢
      refine .inl ⟨p, _, rfl, .inl (.inl ep), fun y ny => ?_⟩
      rw [hu2]
      have ney := st_ne d4.st ny
      have d5 := d4.new (p := y) (o := .lst (u2.map V.str)) ny trivial
      replace ep := same_new (o := .lst (u2.map V.str)) ny _ _ ep
      replace ex := same_new (o := .lst (u2.map V.str)) ny _ _ ex
      have ey : (upd H4 y (.lst (u2.map V.str))) y = some (.lst (u2.map V.str)) := upd_same
      generalize upd H4 y (.lst (u2.map V.str)) = H5 at d5 ey ep ex ⊢
      have hm : mu (u1 ++ u2) ≤ 4 * z.length + 100 := by rw [mu_app]; omega
      have l1 := mu_len (u1 ++ u2)
      rw [List.length_append] at l1
      refine .inl ⟨x, y, _, _, rfl, rfl, ex, ey, line_of (by rw [List.length_map, List.length_map]; omega), fun t nt => ?_⟩
      rw [← List.map_append]
      have net := st_ne d5.st nt
      have d6 := d5.new (p := t) (o := .lst ((u1 ++ u2).map V.str)) nt trivial
      have et : (upd H5 t (.lst ((u1 ++ u2).map V.str))) t = some (.lst ((u1 ++ u2).map V.str)) := upd_same
      generalize upd H5 t (.lst ((u1 ++ u2).map V.str)) = H6 at d6 et  ⊢
      refine ⟨_, t, u1 ++ u2, rfl, rfl, .inl (.inl (.inl et)), hsum _ hm, ?_⟩
      exact fin (u1 ++ u2) _ hm (fun w hw => hso w ((List.mem_append.mp hw).elim (su1 w) (su2 w))) d6
    · refine iteC (p := V.int r1 = V.int 1) (fun h2 => ?_) (fun h2 => ?_)
      · refine ⟨⟨_, rfl⟩, ?_⟩
        obtain ⟨u1, hu1, mu1, su1⟩ := cut_strs ws none (some (r3 + 1))
        obtain ⟨u2, hu2, mu2, su2⟩ := cut_strs ws (some r3) none
        refine .inl ⟨p, _, rfl, .inl (.inl ep), fun x nx => ?_⟩
        rw [hu1]
        have nex := st_ne d3.st nx
        have d4 := d3.new (p := x) (o := .lst (u1.map V.str)) nx trivial
        replace ep := same_new (o := .lst (u1.map V.str)) nx _ _ ep
        have ex : (upd H3 x (.lst (u1.map V.str))) x = some (.lst (u1.map V.str)) := upd_same
        generalize upd H3 x (.lst (u1.map V.str)) = H4 at d4 ex ep ⊢
        refine .inl ⟨p, _, rfl, .inl (.inl ep), fun y ny => ?_⟩
        rw [hu2]
        have ney := st_ne d4.st ny
        have d5 := d4.new (p := y) (o := .lst (u2.map V.str)) ny trivial
        replace ep := same_new (o := .lst (u2.map V.str)) ny _ _ ep
        replace ex := same_new (o := .lst (u2.map V.str)) ny _ _ ex
        have ey : (upd H4 y (.lst (u2.map V.str))) y = some (.lst (u2.map V.str)) := upd_same
        generalize upd H4 y (.lst (u2.map V.str)) = H5 at d5 ey ep ex ⊢
        have hm : mu (u1 ++ u2) ≤ 4 * z.length + 100 := by rw [mu_app]; omega
        have l1 := mu_len (u1 ++ u2)
        rw [List.length_append] at l1
        refine .inl ⟨x, y, _, _, rfl, rfl, ex, ey, line_of (by rw [List.length_map, List.length_map]; omega), fun t nt => ?_⟩
        rw [← List.map_append]
        have net := st_ne d5.st nt
        have d6 := d5.new (p := t) (o := .lst ((u1 ++ u2).map V.str)) nt trivial
        have et : (upd H5 t (.lst ((u1 ++ u2).map V.str))) t = some (.lst ((u1 ++ u2).map V.str)) := upd_same
        generalize upd H5 t (.lst ((u1 ++ u2).map V.str)) = H6 at d6 et  ⊢
        refine ⟨_, t, u1 ++ u2, rfl, rfl, .inl (.inl (.inl et)), hsum _ hm, ?_⟩
        exact fin (u1 ++ u2) _ hm (fun w hw => hso w ((List.mem_append.mp hw).elim (su1 w) (su2 w))) d6
      · refine ⟨⟨_, rfl⟩, ?_⟩
        obtain ⟨u1, hu1, mu1, su1⟩ := cut_strs ws none (some r3)
        obtain ⟨u2, hu2, mu2, su2⟩ := cut_strs ws (some r3) (some (r3 + 2))
        obtain ⟨u3, hu3, mu3, su3⟩ := cut_strs ws (some (r3 + 2)) none
        refine .inl ⟨p, _, rfl, .inl (.inl ep), fun x nx => ?_⟩
        rw [hu1]
        have nex := st_ne d3.st nx
        have d4 := d3.new (p := x) (o := .lst (u1.map V.str)) nx trivial
        replace ep := same_new (o := .lst (u1.map V.str)) nx _ _ ep
        have ex : (upd H3 x (.lst (u1.map V.str))) x = some (.lst (u1.map V.str)) := upd_same
        generalize upd H3 x (.lst (u1.map V.str)) = H4 at d4 ex ep ⊢
        refine .inl ⟨p, _, rfl, .inl (.inl ep), fun y ny => ?_⟩
        rw [hu2]
        have ney := st_ne d4.st ny
        have d5 := d4.new (p := y) (o := .lst (u2.map V.str)) ny trivial
        replace ep := same_new (o := .lst (u2.map V.str)) ny _ _ ep
        replace ex := same_new (o := .lst (u2.map V.str)) ny _ _ ex
        have ey : (upd H4 y (.lst (u2.map V.str))) y = some (.lst (u2.map V.str)) := upd_same
        generalize upd H4 y (.lst (u2.map V.str)) = H5 at d5 ey ep ex ⊢
        refine ⟨y, _, rfl, .inl (.inl ey), fun yr nyr => ?_⟩
        rw [← List.map_reverse]
        have neyr := st_ne d5.st nyr
        have d6 := d5.new (p := yr) (o := .lst (u2.reverse.map V.str)) nyr trivial
        replace ep := same_new (o := .lst (u2.reverse.map V.str)) nyr _ _ ep
        replace ex := same_new (o := .lst (u2.reverse.map V.str)) nyr _ _ ex
        have eyr : (upd H5 yr (.lst (u2.reverse.map V.str))) yr = some (.lst (u2.reverse.map V.str)) := upd_same
        generalize upd H5 yr (.lst (u2.reverse.map V.str)) = H6 at d6 eyr ep ex ⊢
        have mr := mu_rev u2
        have hm : mu ((u1 ++ u2.reverse) ++ u3) ≤ 4 * z.length + 100 := by rw [mu_app, mu_app]; omega
        have l1 := mu_len ((u1 ++ u2.reverse) ++ u3)
        rw [List.length_append, List.length_append] at l1
        refine .inl ⟨x, yr, _, _, rfl, rfl, ex, eyr, line_of (by rw [List.length_map, List.length_map]; omega), fun t nt => ?_⟩
        rw [← List.map_append]
        have net := st_ne d6.st nt
        have d7 := d6.new (p := t) (o := .lst ((u1 ++ u2.reverse).map V.str)) nt trivial
        replace ep := same_new (o := .lst ((u1 ++ u2.reverse).map V.str)) nt _ _ ep
        have et : (upd H6 t (.lst ((u1 ++ u2.reverse).map V.str))) t = some (.lst ((u1 ++ u2.reverse).map V.str)) := upd_same
        generalize upd H6 t (.lst ((u1 ++ u2.reverse).map V.str)) = H7 at d7 et ep ⊢
        refine .inl ⟨p, _, rfl, .inl (.inl ep), fun y3 ny3 => ?_⟩
        rw [hu3]
        have ney3 := st_ne d7.st ny3
        have d8 := d7.new (p := y3) (o := .lst (u3.map V.str)) ny3 trivial
        replace et := same_new (o := .lst (u3.map V.str)) ny3 _ _ et
        have ey3 : (upd H7 y3 (.lst (u3.map V.str))) y3 = some (.lst (u3.map V.str)) := upd_same
        generalize upd H7 y3 (.lst (u3.map V.str)) = H8 at d8 ey3 et ⊢
        refine .inl ⟨t, y3, _, _, rfl, rfl, et, ey3, line_of (by rw [List.length_map, List.length_map, List.length_append]; omega), fun u nu => ?_⟩
        rw [← List.map_append]
        have neu := st_ne d8.st nu
        have d9 := d8.new (p := u) (o := .lst (((u1 ++ u2.reverse) ++ u3).map V.str)) nu trivial
        have eu : (upd H8 u (.lst (((u1 ++ u2.reverse) ++ u3).map V.str))) u = some (.lst (((u1 ++ u2.reverse) ++ u3).map V.str)) := upd_same
        generalize upd H8 u (.lst (((u1 ++ u2.reverse) ++ u3).map V.str)) = H9 at d9 eu  ⊢
        refine ⟨_, u, (u1 ++ u2.reverse) ++ u3, rfl, rfl, .inl (.inl (.inl eu)), hsum _ hm, ?_⟩
        refine fin _ _ hm (fun w hw => hso w ?_) d9
        rcases List.mem_append.mp hw with hw | hw
        · rcases List.mem_append.mp hw with hw | hw
          · exact su1 w hw
          · exact su2 w (List.mem_reverse.mp hw)
        · exact su3 w hw

theorem num_some {w : Str} (sw : sOk w) : ∀ v ∈ (([.str (PySem.Str.ofString "0" ++ w), .str (w ++ PySem.Str.ofString "0"), .str "0", .str "1", .str "20", .str "21", .str "200", .str "201", .str "1000000", .str "1000001", .str (Txt.mul "1" 20)] ++ [.str "-1", .str "1_0", .str "+1"]) ++ [.str "1.0", .str "-", .str (Txt.join "," (List.replicate 10 (PySem.Str.ofString "3"))), .str (Txt.join "," (List.replicate 11 (PySem.Str.ofString "3"))), .str (w ++ PySem.Str.ofString ",0"), .str (PySem.Str.ofString "0," ++ w), .str (w ++ PySem.Str.ofString ",")] : List V), ∃ y, v = .str y ∧ sOk y ∧ y.length ≤ w.length + 30 := fun v hv => by
  have ln := PySem.Str.length_append
  have k1 : (PySem.Str.ofString "0").length = 1 := by decide +kernel
  have k2 : (PySem.Str.ofString ",0").length = 2 := by decide +kernel
  have k3 : (PySem.Str.ofString "0,").length = 2 := by decide +kernel
  have k4 : (PySem.Str.ofString ",").length = 1 := by decide +kernel
  have q : ∀ {x y : Str}, sOk x → x.length ≤ 2 → sOk (x ++ w) ∧ (x ++ w).length ≤ w.length + 30 ∧ sOk (w ++ x) ∧ (w ++ x).length ≤ w.length + 30 := fun {x y} a b => ⟨sOk_app a sw, by rw [ln]; omega, sOk_app sw a, by rw [ln]; omega⟩
  have b0 := q (x := PySem.Str.ofString "0") (y := "") (by decide +kernel) (by omega)
  have b1 := q (x := PySem.Str.ofString ",0") (y := "") (by decide +kernel) (by omega)
  have b2 := q (x := PySem.Str.ofString "0,") (y := "") (by decide +kernel) (by omega)
  have b3 := q (x := PySem.Str.ofString ",") (y := "") (by decide +kernel) (by omega)
  have g : ∀ {y : Str}, sOk y → y.length ≤ 30 → ∃ x, V.str y = .str x ∧ sOk x ∧ x.length ≤ w.length + 30 := fun a b => ⟨_, rfl, a, by omega⟩
  simp only [List.mem_append, List.mem_cons, List.not_mem_nil, or_false] at hv
  rcases hv with ((rfl | rfl | rfl | rfl | rfl | rfl | rfl | rfl | rfl | rfl | rfl) | (rfl | rfl | rfl)) | (rfl | rfl | rfl | rfl | rfl | rfl | rfl)
  · exact ⟨_, rfl, b0.1, b0.2.1⟩
  · exact ⟨_, rfl, b0.2.2.1, b0.2.2.2⟩
  · exact g (by decide +kernel) (by decide +kernel)
  · exact g (by decide +kernel) (by decide +kernel)
  · exact g (by decide +kernel) (by decide +kernel)
  · exact g (by decide +kernel) (by decide +kernel)
  · exact g (by decide +kernel) (by decide +kernel)
  · exact g (by decide +kernel) (by decide +kernel)
  · exact g (by decide +kernel) (by decide +kernel)
  · exact g (by decide +kernel) (by decide +kernel)
  · exact g (by decide +kernel) (by decide +kernel)
  · exact g (by decide +kernel) (by decide +kernel)
  · exact g (by decide +kernel) (by decide +kernel)
  · exact g (by decide +kernel) (by decide +kernel)
  · exact g (by decide +kernel) (by decide +kernel)
  · exact g (by decide +kernel) (by decide +kernel)
  · exact g (by decide +kernel) (by decide +kernel)
  · exact g (by decide +kernel) (by decide +kernel)
  · exact ⟨_, rfl, b1.2.2.1, b1.2.2.2⟩
  · exact ⟨_, rfl, b2.1, b2.2.1⟩
  · exact ⟨_, rfl, b3.2.2.1, b3.2.2.2⟩

abbrev s__law_by_number : Stmt := topS 36
abbrev N__law_by_number : List Str := ["_law_state_here", "_law_text_here", "_law_words", "_law_at", "_law_word", "_law_some"]
theorem sc__law_by_number : FnScope N__law_by_number ["_law_state_here", "_law_text_here"] (defScope s__law_by_number) := ⟨rfl, rfl, rfl, by decide +kernel, rfl, by decide +kernel, by decide +kernel⟩
def sp__law_by_number (K : PySem.W.Frag) (c : Ad) : Sp := fun vs H Q E => arg2 (fun s v => SpP K s v H Q) vs
theorem ok__law_by_number {P : Program} {w : World} {K : PySem.W.Frag} {mg : Str → Option Value} {base : Heap} {c : Ad} (T : Txt K mg c) : Ok P w K mg base 3 "_law_by_number" ["_law_state_here", "_law_text_here"] (sp__law_by_number K c) := by
  refine okF T.f__law_by_number sc__law_by_number (fun vs H Q E h => ?_) (fun f cdv A outer sh H vs Q E hr h => ?_)
  · obtain ⟨s, v, rfl, h⟩ := arg2.ex h
    rfl
  · obtain ⟨s, v, rfl, h⟩ := arg2.ex h
    have tk : Takes (cxOf (L2.CX P w) P w K mg base N__law_by_number "_law_by_number" (defScope s__law_by_number) f cdv A outer sh H (bE H E)) (fun cls d _ H' => bE H E cls d H') := takes_of rfl rfl rfl rfl
    refine ⟨_, pss_cons (ps_set (i := 2) sc__law_by_number.nd rfl (.inl rfl) (pe_split (lv 1) pe_str))
      (pss_cons (ps_set (i := 3) sc__law_by_number.nd rfl (.inl rfl) (pe_f (ok__law_digit (K := K) T) hr passL (pa_cons (lv 0) (pa_cons (pe_callB (callU_len (K := K)) (by rfl) T.m_len (by decide +kernel) (pa_cons (lv 2) pa_nil)) pa_nil))))
      (pss_cons (ps_set (i := 4) sc__law_by_number.nd rfl (.inl rfl) (pe_ix (ixU (K := K)) (lv 2) (lv 3) (fun _ _ => rfl)))
      (pss_cons (ps_set (i := 5) sc__law_by_number.nd rfl (.inl rfl) (pe_lst (pa_cons (pe_op (opU_add (K := K)) pe_str (lv 4)) (pa_cons (pe_op (opU_add (K := K)) (lv 4) pe_str) (pa_cons pe_str (pa_cons pe_str (pa_cons pe_str (pa_cons pe_str (pa_cons pe_str (pa_cons pe_str (pa_cons pe_str (pa_cons pe_str (pa_cons (pe_op opU_mulS pe_str pe_int) pa_nil)))))))))))))
      (pss_cons (ps_set (i := 5) sc__law_by_number.nd rfl (.inl rfl) (pe_op (opU_add (K := K)) (lv 5) (pe_lst (pa_cons pe_str (pa_cons pe_str (pa_cons pe_str pa_nil))))))
      (pss_cons (ps_set (i := 5) sc__law_by_number.nd rfl (.inl rfl) (pe_op (opU_add (K := K)) (lv 5) (pe_lst (pa_cons pe_str (pa_cons pe_str (pa_cons (pe_join pe_str (pe_op opU_mul (pe_lst (pa_cons pe_str pa_nil)) pe_int)) (pa_cons (pe_join pe_str (pe_op opU_mul (pe_lst (pa_cons pe_str pa_nil)) pe_int)) (pa_cons (pe_op (opU_add (K := K)) (lv 4) pe_str) (pa_cons (pe_op (opU_add (K := K)) pe_str (lv 4)) (pa_cons (pe_op (opU_add (K := K)) (lv 4) pe_str) pa_nil))))))))))
      (pss_one (ps_ret (pe_join pe_str (pe_op (opU_add (K := K)) (pe_op (opU_add (K := K)) (pe_slice (slU (K := K)) (lv 2) po_none (po_someU (lv 3))) (pe_lst (pa_cons (pe_ix (ixU (K := K)) (lv 5) (pe_f (ok__law_digit (K := K) T) hr passL (pa_cons (lv 0) (pa_cons (pe_callB (callU_len (K := K)) (by rfl) T.m_len (by decide +kernel) (pa_cons (lv 5) pa_nil)) pa_nil))) (fun _ _ => rfl)) pa_nil))) (pe_slice (slU (K := K)) (lv 2) (po_someU (pe_op (opU_add (K := K)) (lv 3) pe_int)) po_none)))))))))), ?_⟩
    obtain ⟨a, z, rfl, rfl, hz, sz, s0, wf, k⟩ := h
    have d0 := Dr.refl s0 wf
    have hs := split_parts (z := z) (c := 32) (by decide)
    have hso : ∀ w ∈ Txt.split z blank, sOk w := fun w hw => split_ok (by decide) sz hw
    have hmu := split_mu z
    have hne : Txt.split z blank ≠ [] := fun e => by rw [e] at hmu; simp [mu_nil] at hmu
    refine ⟨⟨_, rfl⟩, _, _, rfl, rfl, rfl, line_of (by omega), fun p np => ?_⟩
    have e0 : Txt.split z (PySem.Str.ofString " ") = Txt.split z blank := rfl
    rw [e0]
    have nep := st_ne d0.st np
    have d1 := d0.new (p := p) (o := .lst ((Txt.split z blank).map V.str)) np trivial
    have ep : (upd H p (.lst ((Txt.split z blank).map V.str))) p = some (.lst ((Txt.split z blank).map V.str)) := upd_same
    generalize Txt.split z blank = ws at hso hmu hne d1 ep ⊢
    generalize upd H p (.lst (ws.map V.str)) = H1 at d1 ep ⊢
    have hlw := mu_len ws
    have hl0 : 0 < ws.length := List.length_pos_iff.mpr hne
    have ew : ((ws.map V.str).length : Int) = ws.length := by rw [List.length_map]
    have fin : ∀ (us : List Str) (H' : Hp), mu us ≤ 4 * z.length + 100 → (∀ w ∈ us, sOk w) → Dr a H H' → bQ H Q (.str (Txt.join blank us)) H' := fun us H' h1 h2 d => bQ.mk d.wf (k _ _ (Nat.le_trans (join_mu us) h1) (join_ok h2) d)
    have e1 : (PySem.Str.ofString " ").length = 1 := by decide +kernel
    have hsum : ∀ us : List Str, mu us ≤ 4 * z.length + 100 → (us.map fun w => w.length).sum + us.length * (PySem.Str.ofString " ").length ≤ 16777216 := fun us h => by
      rw [e1]
      have := mu_sum us
      omega
    refine .inl ⟨_, .inl (.inl (.inl ep)), ?_⟩
    refine ⟨a, _, rfl, rfl, d1.st, bas_lt (by omega) (by omega), d1.wf, fun r2 p2 q2 g2 l2 n2 => ?_⟩
    have d2 := d1.drawn (q := q2) n2
    replace ep := (upd_ne (o := stL p2 q2) nep).trans ep
    generalize upd H1 a (stL p2 q2) = H2 at d2 ep ⊢
    obtain ⟨v, hv, mv⟩ := at_lt (xs := ws.map V.str) g2 (by exact l2)
    obtain ⟨w, hw, rfl⟩ := List.mem_map.mp mv
    refine ⟨_, _, .inl (.inl (.inl ep)), hv, ?_⟩
    have sw := hso w hw
    have lw := mu_mem hw
    have ln := PySem.Str.length_append
    have k1 : (PySem.Str.ofString "0").length = 1 := by decide +kernel
    refine ⟨line_of (by omega), line_of (by omega), ?_⟩
    have m20 : MulOk (PySem.Str.ofString "1") 20 := by
      refine ⟨by decide, fun _ _ => by decide +kernel, fun _ _ => by decide +kernel⟩
    refine ⟨m20, line_of (show 11 ≤ 16777216 by decide), fun y1 ny1 => ?_⟩
    have ney1 := st_ne d2.st ny1
    have d3 := d2.new (p := y1) (o := .lst [.str (PySem.Str.ofString "0" ++ w), .str (w ++ PySem.Str.ofString "0"), .str "0", .str "1", .str "20", .str "21", .str "200", .str "201", .str "1000000", .str "1000001", .str (Txt.mul "1" 20)]) ny1 trivial
    replace ep := same_new (o := .lst [.str (PySem.Str.ofString "0" ++ w), .str (w ++ PySem.Str.ofString "0"), .str "0", .str "1", .str "20", .str "21", .str "200", .str "201", .str "1000000", .str "1000001", .str (Txt.mul "1" 20)]) ny1 _ _ ep
    have ey1 : (upd H2 y1 (.lst [.str (PySem.Str.ofString "0" ++ w), .str (w ++ PySem.Str.ofString "0"), .str "0", .str "1", .str "20", .str "21", .str "200", .str "201", .str "1000000", .str "1000001", .str (Txt.mul "1" 20)])) y1 = some (.lst [.str (PySem.Str.ofString "0" ++ w), .str (w ++ PySem.Str.ofString "0"), .str "0", .str "1", .str "20", .str "21", .str "200", .str "201", .str "1000000", .str "1000001", .str (Txt.mul "1" 20)]) := upd_same
    generalize upd H2 y1 (.lst [.str (PySem.Str.ofString "0" ++ w), .str (w ++ PySem.Str.ofString "0"), .str "0", .str "1", .str "20", .str "21", .str "200", .str "201", .str "1000000", .str "1000001", .str (Txt.mul "1" 20)]) = H3 at d3 ey1 ep ⊢
    refine ⟨line_of (show 3 ≤ 16777216 by decide), fun y2 ny2 => ?_⟩
    have ney2 := st_ne d3.st ny2
    have d4 := d3.new (p := y2) (o := .lst [.str "-1", .str "1_0", .str "+1"]) ny2 trivial
    replace ep := same_new (o := .lst [.str "-1", .str "1_0", .str "+1"]) ny2 _ _ ep
    replace ey1 := same_new (o := .lst [.str "-1", .str "1_0", .str "+1"]) ny2 _ _ ey1
    have ey2 : (upd H3 y2 (.lst [.str "-1", .str "1_0", .str "+1"])) y2 = some (.lst [.str "-1", .str "1_0", .str "+1"]) := upd_same
    generalize upd H3 y2 (.lst [.str "-1", .str "1_0", .str "+1"]) = H4 at d4 ey2 ep ey1 ⊢
    refine .inl ⟨y1, y2, _, _, rfl, rfl, ey1, ey2, line_of (show 14 ≤ 16777216 by decide), fun y3 ny3 => ?_⟩
    have ney3 := st_ne d4.st ny3
    have d5 := d4.new (p := y3) (o := .lst ([.str (PySem.Str.ofString "0" ++ w), .str (w ++ PySem.Str.ofString "0"), .str "0", .str "1", .str "20", .str "21", .str "200", .str "201", .str "1000000", .str "1000001", .str (Txt.mul "1" 20)] ++ [.str "-1", .str "1_0", .str "+1"])) ny3 trivial
    replace ep := same_new (o := .lst ([.str (PySem.Str.ofString "0" ++ w), .str (w ++ PySem.Str.ofString "0"), .str "0", .str "1", .str "20", .str "21", .str "200", .str "201", .str "1000000", .str "1000001", .str (Txt.mul "1" 20)] ++ [.str "-1", .str "1_0", .str "+1"])) ny3 _ _ ep
    have ey3 : (upd H4 y3 (.lst ([.str (PySem.Str.ofString "0" ++ w), .str (w ++ PySem.Str.ofString "0"), .str "0", .str "1", .str "20", .str "21", .str "200", .str "201", .str "1000000", .str "1000001", .str (Txt.mul "1" 20)] ++ [.str "-1", .str "1_0", .str "+1"]))) y3 = some (.lst ([.str (PySem.Str.ofString "0" ++ w), .str (w ++ PySem.Str.ofString "0"), .str "0", .str "1", .str "20", .str "21", .str "200", .str "201", .str "1000000", .str "1000001", .str (Txt.mul "1" 20)] ++ [.str "-1", .str "1_0", .str "+1"])) := upd_same
    generalize upd H4 y3 (.lst ([.str (PySem.Str.ofString "0" ++ w), .str (w ++ PySem.Str.ofString "0"), .str "0", .str "1", .str "20", .str "21", .str "200", .str "201", .str "1000000", .str "1000001", .str (Txt.mul "1" 20)] ++ [.str "-1", .str "1_0", .str "+1"])) = H5 at d5 ey3 ep ⊢
    refine ⟨⟨_, rfl⟩, ?_⟩
    refine ⟨line_of (show 1 ≤ 16777216 by decide), fun t1 nt1 => ?_⟩
    have net1 := st_ne d5.st nt1
    have d6 := d5.new (p := t1) (o := .lst [.str "3"]) nt1 trivial
    replace ep := same_new (o := .lst [.str "3"]) nt1 _ _ ep
    replace ey3 := same_new (o := .lst [.str "3"]) nt1 _ _ ey3
    have et1 : (upd H5 t1 (.lst [.str "3"])) t1 = some (.lst [.str "3"]) := upd_same
    generalize upd H5 t1 (.lst [.str "3"]) = H6 at d6 et1 ep ey3 ⊢
    refine ⟨t1, 10, _, rfl, rfl, et1, by decide, by decide, line_of (show 10 ≤ 16777216 by decide), fun t2 nt2 => ?_⟩
    have net2 := st_ne d6.st nt2
    have d7 := d6.new (p := t2) (o := .lst (List.replicate (10 : Int).toNat [V.str "3"]).flatten) nt2 trivial
    replace ep := same_new (o := .lst (List.replicate (10 : Int).toNat [V.str "3"]).flatten) nt2 _ _ ep
    replace ey3 := same_new (o := .lst (List.replicate (10 : Int).toNat [V.str "3"]).flatten) nt2 _ _ ey3
    have et2 : (upd H6 t2 (.lst (List.replicate (10 : Int).toNat [V.str "3"]).flatten)) t2 = some (.lst (List.replicate (10 : Int).toNat [V.str "3"]).flatten) := upd_same
    generalize upd H6 t2 (.lst (List.replicate (10 : Int).toNat [V.str "3"]).flatten) = H7 at d7 et2 ep ey3 ⊢
    refine ⟨_, t2, List.replicate 10 (PySem.Str.ofString "3"), rfl, rfl, .inl (.inl (.inl et2)), by decide +kernel, ?_⟩
    refine ⟨⟨_, rfl⟩, ?_⟩
    refine ⟨line_of (show 1 ≤ 16777216 by decide), fun t3 nt3 => ?_⟩
    have net3 := st_ne d7.st nt3
    have d8 := d7.new (p := t3) (o := .lst [.str "3"]) nt3 trivial
    replace ep := same_new (o := .lst [.str "3"]) nt3 _ _ ep
    replace ey3 := same_new (o := .lst [.str "3"]) nt3 _ _ ey3
    have et3 : (upd H7 t3 (.lst [.str "3"])) t3 = some (.lst [.str "3"]) := upd_same
    generalize upd H7 t3 (.lst [.str "3"]) = H8 at d8 et3 ep ey3 ⊢
    refine ⟨t3, 11, _, rfl, rfl, et3, by decide, by decide, line_of (show 11 ≤ 16777216 by decide), fun t4 nt4 => ?_⟩
    have net4 := st_ne d8.st nt4
    have d9 := d8.new (p := t4) (o := .lst (List.replicate (11 : Int).toNat [V.str "3"]).flatten) nt4 trivial
    replace ep := same_new (o := .lst (List.replicate (11 : Int).toNat [V.str "3"]).flatten) nt4 _ _ ep
    replace ey3 := same_new (o := .lst (List.replicate (11 : Int).toNat [V.str "3"]).flatten) nt4 _ _ ey3
    have et4 : (upd H8 t4 (.lst (List.replicate (11 : Int).toNat [V.str "3"]).flatten)) t4 = some (.lst (List.replicate (11 : Int).toNat [V.str "3"]).flatten) := upd_same
    generalize upd H8 t4 (.lst (List.replicate (11 : Int).toNat [V.str "3"]).flatten) = H9 at d9 et4 ep ey3 ⊢
    refine ⟨_, t4, List.replicate 11 (PySem.Str.ofString "3"), rfl, rfl, .inl (.inl (.inl et4)), by decide +kernel, ?_⟩
    have k2 : (PySem.Str.ofString ",0").length = 2 := by decide +kernel
    have k3 : (PySem.Str.ofString "0,").length = 2 := by decide +kernel
    have k4 : (PySem.Str.ofString ",").length = 1 := by decide +kernel
    refine ⟨line_of (by omega), line_of (by omega), line_of (by omega), line_of (show 7 ≤ 16777216 by decide), fun y4 ny4 => ?_⟩
    have ney4 := st_ne d9.st ny4
    have dA := d9.new (p := y4) (o := .lst [.str "1.0", .str "-", .str (Txt.join "," (List.replicate 10 (PySem.Str.ofString "3"))), .str (Txt.join "," (List.replicate 11 (PySem.Str.ofString "3"))), .str (w ++ PySem.Str.ofString ",0"), .str (PySem.Str.ofString "0," ++ w), .str (w ++ PySem.Str.ofString ",")]) ny4 trivial
    replace ep := same_new (o := .lst [.str "1.0", .str "-", .str (Txt.join "," (List.replicate 10 (PySem.Str.ofString "3"))), .str (Txt.join "," (List.replicate 11 (PySem.Str.ofString "3"))), .str (w ++ PySem.Str.ofString ",0"), .str (PySem.Str.ofString "0," ++ w), .str (w ++ PySem.Str.ofString ",")]) ny4 _ _ ep
    replace ey3 := same_new (o := .lst [.str "1.0", .str "-", .str (Txt.join "," (List.replicate 10 (PySem.Str.ofString "3"))), .str (Txt.join "," (List.replicate 11 (PySem.Str.ofString "3"))), .str (w ++ PySem.Str.ofString ",0"), .str (PySem.Str.ofString "0," ++ w), .str (w ++ PySem.Str.ofString ",")]) ny4 _ _ ey3
    have ey4 : (upd H9 y4 (.lst [.str "1.0", .str "-", .str (Txt.join "," (List.replicate 10 (PySem.Str.ofString "3"))), .str (Txt.join "," (List.replicate 11 (PySem.Str.ofString "3"))), .str (w ++ PySem.Str.ofString ",0"), .str (PySem.Str.ofString "0," ++ w), .str (w ++ PySem.Str.ofString ",")])) y4 = some (.lst [.str "1.0", .str "-", .str (Txt.join "," (List.replicate 10 (PySem.Str.ofString "3"))), .str (Txt.join "," (List.replicate 11 (PySem.Str.ofString "3"))), .str (w ++ PySem.Str.ofString ",0"), .str (PySem.Str.ofString "0," ++ w), .str (w ++ PySem.Str.ofString ",")]) := upd_same
    generalize upd H9 y4 (.lst [.str "1.0", .str "-", .str (Txt.join "," (List.replicate 10 (PySem.Str.ofString "3"))), .str (Txt.join "," (List.replicate 11 (PySem.Str.ofString "3"))), .str (w ++ PySem.Str.ofString ",0"), .str (PySem.Str.ofString "0," ++ w), .str (w ++ PySem.Str.ofString ",")]) = HA at dA ey4 ep ey3 ⊢
    refine .inl ⟨y3, y4, _, _, rfl, rfl, ey3, ey4, line_of (show 21 ≤ 16777216 by decide), fun y5 ny5 => ?_⟩
    have ney5 := st_ne dA.st ny5
    have dB := dA.new (p := y5) (o := .lst (([.str (PySem.Str.ofString "0" ++ w), .str (w ++ PySem.Str.ofString "0"), .str "0", .str "1", .str "20", .str "21", .str "200", .str "201", .str "1000000", .str "1000001", .str (Txt.mul "1" 20)] ++ [.str "-1", .str "1_0", .str "+1"]) ++ [.str "1.0", .str "-", .str (Txt.join "," (List.replicate 10 (PySem.Str.ofString "3"))), .str (Txt.join "," (List.replicate 11 (PySem.Str.ofString "3"))), .str (w ++ PySem.Str.ofString ",0"), .str (PySem.Str.ofString "0," ++ w), .str (w ++ PySem.Str.ofString ",")])) ny5 trivial
    replace ep := same_new (o := .lst (([.str (PySem.Str.ofString "0" ++ w), .str (w ++ PySem.Str.ofString "0"), .str "0", .str "1", .str "20", .str "21", .str "200", .str "201", .str "1000000", .str "1000001", .str (Txt.mul "1" 20)] ++ [.str "-1", .str "1_0", .str "+1"]) ++ [.str "1.0", .str "-", .str (Txt.join "," (List.replicate 10 (PySem.Str.ofString "3"))), .str (Txt.join "," (List.replicate 11 (PySem.Str.ofString "3"))), .str (w ++ PySem.Str.ofString ",0"), .str (PySem.Str.ofString "0," ++ w), .str (w ++ PySem.Str.ofString ",")])) ny5 _ _ ep
    have ey5 : (upd HA y5 (.lst (([.str (PySem.Str.ofString "0" ++ w), .str (w ++ PySem.Str.ofString "0"), .str "0", .str "1", .str "20", .str "21", .str "200", .str "201", .str "1000000", .str "1000001", .str (Txt.mul "1" 20)] ++ [.str "-1", .str "1_0", .str "+1"]) ++ [.str "1.0", .str "-", .str (Txt.join "," (List.replicate 10 (PySem.Str.ofString "3"))), .str (Txt.join "," (List.replicate 11 (PySem.Str.ofString "3"))), .str (w ++ PySem.Str.ofString ",0"), .str (PySem.Str.ofString "0," ++ w), .str (w ++ PySem.Str.ofString ",")]))) y5 = some (.lst (([.str (PySem.Str.ofString "0" ++ w), .str (w ++ PySem.Str.ofString "0"), .str "0", .str "1", .str "20", .str "21", .str "200", .str "201", .str "1000000", .str "1000001", .str (Txt.mul "1" 20)] ++ [.str "-1", .str "1_0", .str "+1"]) ++ [.str "1.0", .str "-", .str (Txt.join "," (List.replicate 10 (PySem.Str.ofString "3"))), .str (Txt.join "," (List.replicate 11 (PySem.Str.ofString "3"))), .str (w ++ PySem.Str.ofString ",0"), .str (PySem.Str.ofString "0," ++ w), .str (w ++ PySem.Str.ofString ",")])) := upd_same
    generalize upd HA y5 (.lst (([.str (PySem.Str.ofString "0" ++ w), .str (w ++ PySem.Str.ofString "0"), .str "0", .str "1", .str "20", .str "21", .str "200", .str "201", .str "1000000", .str "1000001", .str (Txt.mul "1" 20)] ++ [.str "-1", .str "1_0", .str "+1"]) ++ [.str "1.0", .str "-", .str (Txt.join "," (List.replicate 10 (PySem.Str.ofString "3"))), .str (Txt.join "," (List.replicate 11 (PySem.Str.ofString "3"))), .str (w ++ PySem.Str.ofString ",0"), .str (PySem.Str.ofString "0," ++ w), .str (w ++ PySem.Str.ofString ",")])) = HB at dB ey5 ep ⊢
    have hall := num_some sw
    generalize hLl : (([.str (PySem.Str.ofString "0" ++ w), .str (w ++ PySem.Str.ofString "0"), .str "0", .str "1", .str "20", .str "21", .str "200", .str "201", .str "1000000", .str "1000001", .str (Txt.mul "1" 20)] ++ [.str "-1", .str "1_0", .str "+1"]) ++ [.str "1.0", .str "-", .str (Txt.join "," (List.replicate 10 (PySem.Str.ofString "3"))), .str (Txt.join "," (List.replicate 11 (PySem.Str.ofString "3"))), .str (w ++ PySem.Str.ofString ",0"), .str (PySem.Str.ofString "0," ++ w), .str (w ++ PySem.Str.ofString ",")] : List V) = L at ey5 hall
    refine ⟨⟨_, rfl⟩, ?_⟩
    obtain ⟨u1, hu1, mu1, su1⟩ := cut_strs ws none (some r2)
    obtain ⟨u2, hu2, mu2, su2⟩ := cut_strs ws (some (r2 + 1)) none
    refine .inl ⟨p, _, rfl, .inl (.inl ep), fun x nx => ?_⟩
    rw [hu1]
    have nx' := st_ne dB.st nx
    have nex := st_ne dB.st nx
    have dC := dB.new (p := x) (o := .lst (u1.map V.str)) nx trivial
    replace ep := same_new (o := .lst (u1.map V.str)) nx _ _ ep
    replace ey5 := same_new (o := .lst (u1.map V.str)) nx _ _ ey5
    have ex : (upd HB x (.lst (u1.map V.str))) x = some (.lst (u1.map V.str)) := upd_same
    generalize upd HB x (.lst (u1.map V.str)) = HC at dC ex ep ey5 ⊢
    refine .inl ⟨_, .inl (.inl (.inl ey5)), ?_⟩
    have hLlen : L.length = 21 := by rw [← hLl]; rfl
    refine ⟨a, _, rfl, rfl, dC.st, bas_lt (by omega) (by omega), dC.wf, fun rD pD qD gD lD nD => ?_⟩
    have dD := dC.drawn (q := qD) nD
    replace ep := (upd_ne (o := stL pD qD) nep).trans ep
    replace ey5 := (upd_ne (o := stL pD qD) ney5).trans ey5
    replace ex := (upd_ne (o := stL pD qD) nx').trans ex
    generalize upd HC a (stL pD qD) = HD at dD ep ey5 ex ⊢
    obtain ⟨v2, hv2, mv2⟩ := at_lt (xs := L) gD (by exact lD)
    obtain ⟨y, rfl, sy, ly⟩ := hall v2 mv2
    refine ⟨_, _, .inl (.inl (.inl ey5)), hv2, ?_⟩
    refine ⟨line_of (show 1 ≤ 16777216 by decide), fun t5 nt5 => ?_⟩
    have net5 := st_ne dD.st nt5
    have dF := dD.new (p := t5) (o := .lst [.str y]) nt5 trivial
    replace ep := same_new (o := .lst [.str y]) nt5 _ _ ep
    replace ex := same_new (o := .lst [.str y]) nt5 _ _ ex
    have et5 : (upd HD t5 (.lst [.str y])) t5 = some (.lst [.str y]) := upd_same
    generalize upd HD t5 (.lst [.str y]) = HF at dF et5 ep ex ⊢
    have hm0 : mu (u1 ++ [y]) ≤ 2 * z.length + 40 := by rw [mu_app, mu_cons, mu_nil]; omega
    have l0 := mu_len (u1 ++ [y])
    rw [List.length_append] at l0
    refine .inl ⟨x, t5, _, _, rfl, rfl, ex, et5, line_of (by rw [List.length_map]; exact Nat.le_trans l0 (by omega)), fun t6 nt6 => ?_⟩
    have hg : upd HF t6 (.lst (u1.map V.str ++ [.str y])) = upd HF t6 (.lst ((u1 ++ [y]).map V.str)) := by rw [List.map_append]; rfl
    rw [hg]
    have net6 := st_ne dF.st nt6
    have dG := dF.new (p := t6) (o := .lst ((u1 ++ [y]).map V.str)) nt6 trivial
    replace ep := same_new (o := .lst ((u1 ++ [y]).map V.str)) nt6 _ _ ep
    have et6 : (upd HF t6 (.lst ((u1 ++ [y]).map V.str))) t6 = some (.lst ((u1 ++ [y]).map V.str)) := upd_same
    generalize upd HF t6 (.lst ((u1 ++ [y]).map V.str)) = HG at dG et6 ep ⊢
    refine .inl ⟨p, _, rfl, .inl (.inl ep), fun t7 nt7 => ?_⟩
    rw [hu2]
    have net7 := st_ne dG.st nt7
    have dI := dG.new (p := t7) (o := .lst (u2.map V.str)) nt7 trivial
    replace et6 := same_new (o := .lst (u2.map V.str)) nt7 _ _ et6
    have et7 : (upd HG t7 (.lst (u2.map V.str))) t7 = some (.lst (u2.map V.str)) := upd_same
    generalize upd HG t7 (.lst (u2.map V.str)) = HI at dI et7 et6 ⊢
    have hm : mu ((u1 ++ [y]) ++ u2) ≤ 4 * z.length + 100 := by rw [mu_app]; omega
    have l1 := mu_len ((u1 ++ [y]) ++ u2)
    rw [List.length_append] at l1
    refine .inl ⟨t6, t7, _, _, rfl, rfl, et6, et7, line_of (by rw [List.length_map, List.length_map]; omega), fun t8 nt8 => ?_⟩
    rw [← List.map_append]
    have net8 := st_ne dI.st nt8
    have dJ := dI.new (p := t8) (o := .lst (((u1 ++ [y]) ++ u2).map V.str)) nt8 trivial
    have et8 : (upd HI t8 (.lst (((u1 ++ [y]) ++ u2).map V.str))) t8 = some (.lst (((u1 ++ [y]) ++ u2).map V.str)) := upd_same
    generalize upd HI t8 (.lst (((u1 ++ [y]) ++ u2).map V.str)) = HJ at dJ et8  ⊢
    refine ⟨_, t8, (u1 ++ [y]) ++ u2, rfl, rfl, .inl (.inl (.inl et8)), hsum _ hm, ?_⟩
    refine fin _ _ hm (fun w hw => ?_) dJ
    rcases List.mem_append.mp hw with hw | hw
    · rcases List.mem_append.mp hw with hw | hw
      · exact hso w (su1 w hw)
      · rw [List.mem_singleton.mp hw]
        exact sy
    · exact hso w (su2 w hw)

abbrev s__law_spoilt : Stmt := topS 37
abbrev N__law_spoilt : List Str := ["_law_state_here", "_law_text_here", "_law_way"]
theorem sc__law_spoilt : FnScope N__law_spoilt ["_law_state_here", "_law_text_here"] (defScope s__law_spoilt) := ⟨rfl, rfl, rfl, by decide +kernel, rfl, by decide +kernel, by decide +kernel⟩
def sp__law_spoilt (K : PySem.W.Frag) (c : Ad) : Sp := fun vs H Q E => arg2 (fun s v => SpP K s v H Q) vs
theorem ok__law_spoilt {P : Program} {w : World} {K : PySem.W.Frag} {mg : Str → Option Value} {base : Heap} {c : Ad} (T : Txt K mg c) : Ok P w K mg base 4 "_law_spoilt" ["_law_state_here", "_law_text_here"] (sp__law_spoilt K c) := by
  refine okF T.f__law_spoilt sc__law_spoilt (fun vs H Q E h => ?_) (fun f cdv A outer sh H vs Q E hr h => ?_)
  · obtain ⟨s, v, rfl, h⟩ := arg2.ex h
    rfl
  · obtain ⟨s, v, rfl, h⟩ := arg2.ex h
    have tk : Takes (cxOf (L2.CX P w) P w K mg base N__law_spoilt "_law_spoilt" (defScope s__law_spoilt) f cdv A outer sh H (bE H E)) (fun cls d _ H' => bE H E cls d H') := takes_of rfl rfl rfl rfl
    refine ⟨_, pss_cons (ps_set (i := 2) sc__law_spoilt.nd rfl (.inl rfl) (pe_f (ok__law_digit (K := K) T) (hr.mono (by decide)) passL (pa_cons (lv 0) (pa_cons pe_int pa_nil))))
      (pss_cons (ps_if (pt_cmpU opU_lt (lv 2) pe_int (nomark _))
      (pss_one (ps_ret (pe_f (ok__law_by_sign (K := K) T) hr passL (pa_cons (lv 0) (pa_cons (lv 1) pa_nil))))) pss_nil)
      (pss_cons (ps_if (pt_cmpU opU_lt (lv 2) pe_int (nomark _))
      (pss_one (ps_ret (pe_f (ok__law_by_number (K := K) T) hr passL (pa_cons (lv 0) (pa_cons (lv 1) pa_nil))))) pss_nil)
      (pss_one (ps_ret (pe_f (ok__law_by_word (K := K) T) hr passL (pa_cons (lv 0) (pa_cons (lv 1) pa_nil))))))), ?_⟩
    obtain ⟨a, z, rfl, rfl, hz, sz, s0, wf, k⟩ := h
    have d0 := Dr.refl s0 wf
    refine ⟨a, 6, rfl, rfl, d0.st, bas_lt (by decide) (by decide), d0.wf, fun r1 p1 q1 g1 l1 n1 => ?_⟩
    have d1 := d0.drawn (q := q1) n1
    generalize upd H a (stL p1 q1) = H1 at d1  ⊢
    refine iteC (p := r1 < 3) (fun h1 => ?_) (fun h1 => ?_)
    · exact ⟨a, z, rfl, rfl, hz, sz, d1.st, d1.wf, fun z' H' h1 h2 h3 => bQ.mk h3.wf (k _ _ h1 h2 (d1.trans h3))⟩
    · refine iteC (p := r1 < 5) (fun h2 => ?_) (fun h2 => ?_)
      · exact ⟨a, z, rfl, rfl, hz, sz, d1.st, d1.wf, fun z' H' h1 h2 h3 => bQ.mk h3.wf (k _ _ h1 h2 (d1.trans h3))⟩
      · exact ⟨a, z, rfl, rfl, hz, sz, d1.st, d1.wf, fun z' H' h1 h2 h3 => bQ.mk h3.wf (k _ _ h1 h2 (d1.trans h3))⟩

abbrev s__law_told : Stmt := topS 38
abbrev N__law_told : List Str := ["_law_text_here", "_law_found", "e", "_law_others"]
theorem sc__law_told : FnScope N__law_told ["_law_text_here"] (defScope s__law_told) := ⟨rfl, rfl, rfl, by decide +kernel, rfl, by decide +kernel, by decide +kernel⟩
def sp__law_told (K : PySem.W.Frag) (c : Ad) : Sp := fun vs H Q E => arg1 (fun v => Wf H ∧ ((∃ z, v = .str z ∧ z.length ≤ 100000 ∧ (readD z = none → ∀ q H', SqT K H' q [.bl true, .bl true] → Same H H' → Wf H' → Q (.ref q) H') ∧ (∀ d r q H', readD z = some d → Dp K H' (.ref r) d → SqT K H' q [.bl false, .ref r] → Same H H' → Wf H' → Q (.ref q) H')) ∨ (Kn K H v ∧ isStr v = false ∧ ∀ q H', SqT K H' q [.bl true, .bl true] → Same H H' → Wf H' → Q (.ref q) H'))) vs
theorem ok__law_told {P : Program} {w : World} {K : PySem.W.Frag} {mg : Str → Option Value} {base : Heap} {c : Ad} (T : Txt K mg c) : Ok P w K mg base 6 "_law_told" ["_law_text_here"] (sp__law_told K c) := by
  refine okF T.f__law_told sc__law_told (fun vs H Q E h => ?_) (fun f cdv A outer sh H vs Q E hr h => ?_)
  · obtain ⟨v, rfl, h⟩ := arg1.ex h
    rfl
  · obtain ⟨v, rfl, h⟩ := arg1.ex h
    have tk : Takes (cxOf (L2.CX P w) P w K mg base N__law_told "_law_told" (defScope s__law_told) f cdv A outer sh H (bE H E)) (fun cls d _ H' => bE H E cls d H') := takes_of rfl rfl rfl rfl
    refine ⟨_, pss_cons (ps_set (i := 1) sc__law_told.nd rfl (.inl rfl) (pe_tup (pa_cons pe_bl (pa_cons pe_non pa_nil))))
      (pss_cons (ps_tryA (K := K) T.x_LentError sc__law_told.nd (i := 2) rfl tk (fun W pn xe tk pO => pss_one (ps_set (i := 1) sc__law_told.nd rfl (.inl rfl) (pe_tup (pa_cons pe_bl (pa_cons (pe_fS (ok_read_rule (K := K) T) hr tk (pa_cons (lv 0) pa_nil)) pa_nil))))) (fun a oe cls d pn hz hf => pss_cons (ps_set (i := 3) sc__law_told.nd rfl (.inl rfl) (pe_lst (pa_cons (pe_callB (callU_isX (K := K) hz hf) (by rfl) T.m_isinstance (by decide +kernel) (pa_cons (lv 2) (pa_cons (pe_xc T.x_NoRow) pa_nil))) (pa_cons (pe_callB (callU_isX (K := K) hz hf) (by rfl) T.m_isinstance (by decide +kernel) (pa_cons (lv 2) (pa_cons (pe_xc T.x_NoText) pa_nil))) (pa_cons (pe_callB (callU_isX (K := K) hz hf) (by rfl) T.m_isinstance (by decide +kernel) (pa_cons (lv 2) (pa_cons (pe_xc T.x_NoTry) pa_nil))) pa_nil)))))
      (pss_one (ps_set (i := 1) sc__law_told.nd rfl (.inl rfl) (pe_tup (pa_cons pe_bl (pa_cons (pe_andU (K := K) (pe_callB (callU_isX (K := K) hz hf) (by rfl) T.m_isinstance (by decide +kernel) (pa_cons (lv 2) (pa_cons (pe_xc T.x_NoRule) pa_nil))) (pe_andU (K := K) (pe_callB (callU_isX (K := K) hz hf) (by rfl) T.m_isinstance (by decide +kernel) (pa_cons (lv 2) (pa_cons (pe_ty "ValueError" T.m_ValueError) pa_nil))) (pe_one (pe_cmpR (opU_notin (K := K)) pe_bl (lv 3) (by rfl))))) pa_nil)))))))
      (pss_one (ps_ret (lv 1)))), ?_⟩
    obtain ⟨wf, h⟩ := h
    refine ⟨line_of (show 2 ≤ 16777216 by decide), fun x nx => ?_⟩
    have sm := same_new (o := .tup [.bl true, .non]) nx
    have w1 := wf.new (o := .tup [.bl true, .non]) trivial nx
    generalize upd H x (.tup [.bl true, .non]) = H1 at sm w1 ⊢
    have cc := T.x_NoRule.cc
    have ss := T.u_NoRule_NoRule
    have two : ∀ {q1 : Addr}, H1 q1 = none → True := fun _ => trivial
    rcases h with ⟨z, rfl, hz, k0, k1⟩ | ⟨hk, hs, k0⟩
    · refine ⟨w1, .inl ⟨z, rfl, hz, fun d q H' e dd sm1 w2 => ?_, fun e => ?_⟩⟩
      · refine ⟨line_of (show 2 ≤ 16777216 by decide), fun y ny => ?_⟩
        have smY := same_new (o := .tup [.bl false, .ref q]) ny
        exact bQ.mk (w2.new trivial ny) (k1 d q y _ e (dp_keep smY dd) (.inl (.inl upd_same)) (sm.trans (sm1.trans smY)) (w2.new trivial ny))
      · refine ⟨true, exc_under T.x_NoRule T.x_LentError T.u_NoRule_LentError, fun _ e2 ne => ?_, fun z => by cases z⟩
        refine ⟨_, rfl, rfl, cc, _, _, _, rfl, fun _ h => h, exc_is T.x_NoRule ss T.x_NoRow T.u_NoRule_NoRow, ?_⟩
        refine ⟨_, rfl, rfl, cc, _, _, _, rfl, fun _ h => h, exc_is T.x_NoRule ss T.x_NoText T.u_NoRule_NoText, ?_⟩
        refine ⟨_, rfl, rfl, cc, _, _, _, rfl, fun _ h => h, exc_is T.x_NoRule ss T.x_NoTry T.u_NoRule_NoTry, ?_⟩
        refine ⟨line_of (show 3 ≤ 16777216 by decide), fun q1 nq1 => ?_⟩
        refine ⟨_, rfl, rfl, cc, _, _, _, rfl, fun _ h => h, exc_is T.x_NoRule ss T.x_NoRule T.u_NoRule_NoRule, ?_⟩
        refine ⟨_, rfl, rfl, cc, _, _, _, rfl, fun _ h => h, exc_ve T.x_NoRule, ?_⟩
        refine ⟨_, .inl (.inl (.inl upd_same)), rfl, rfl, ?_⟩
        have wA := w1.new (o := .lst [.bl false, .bl false, .bl false]) trivial nq1
        have smA := sm.trans (same_new (o := .lst [.bl false, .bl false, .bl false]) nq1)
        refine ⟨line_of (show 2 ≤ 16777216 by decide), fun y ny => ?_⟩
        exact bQ.mk (wA.new trivial ny) (k0 e y _ (.inl (.inl upd_same)) (smA.trans (same_new ny)) (wA.new trivial ny))
    · have hi := isk_str (kn_same sm hk)
      rw [hs] at hi
      refine ⟨w1, .inr ⟨hi, ?_⟩⟩
      refine ⟨true, exc_under T.x_NoRule T.x_LentError T.u_NoRule_LentError, fun _ e2 ne => ?_, fun z => by cases z⟩
      refine ⟨_, rfl, rfl, cc, _, _, _, rfl, fun _ h => h, exc_is T.x_NoRule ss T.x_NoRow T.u_NoRule_NoRow, ?_⟩
      refine ⟨_, rfl, rfl, cc, _, _, _, rfl, fun _ h => h, exc_is T.x_NoRule ss T.x_NoText T.u_NoRule_NoText, ?_⟩
      refine ⟨_, rfl, rfl, cc, _, _, _, rfl, fun _ h => h, exc_is T.x_NoRule ss T.x_NoTry T.u_NoRule_NoTry, ?_⟩
      refine ⟨line_of (show 3 ≤ 16777216 by decide), fun q1 nq1 => ?_⟩
      refine ⟨_, rfl, rfl, cc, _, _, _, rfl, fun _ h => h, exc_is T.x_NoRule ss T.x_NoRule T.u_NoRule_NoRule, ?_⟩
      refine ⟨_, rfl, rfl, cc, _, _, _, rfl, fun _ h => h, exc_ve T.x_NoRule, ?_⟩
      refine ⟨_, .inl (.inl (.inl upd_same)), rfl, rfl, ?_⟩
      have wA := w1.new (o := .lst [.bl false, .bl false, .bl false]) trivial nq1
      have smA := sm.trans (same_new (o := .lst [.bl false, .bl false, .bl false]) nq1)
      refine ⟨line_of (show 2 ≤ 16777216 by decide), fun y ny => ?_⟩
      exact bQ.mk (wA.new trivial ny) (k0 y _ (.inl (.inl upd_same)) (smA.trans (same_new ny)) (wA.new trivial ny))

theorem pair_shaped {o : Str} {t l : Int} {ps : List Int} {m : Int} (h : RuleOk o t l ps m) : SeqAt.shaped (.tuple [.bool false, ruleD o t l ps m]) = true := by
  have h1 := rule_shaped h
  have h2 := SeqAt.canLay_of_shaped h1
  have h3 : (ruleD o t l ps m).depth ≤ 2 := by
    have h4 : PyData.depthAll (ps.map .int) = 0 := by
      clear h1 h2 h
      induction ps with
      | nil => rfl
      | cons z r ih =>
        show max 0 (PyData.depthAll (r.map .int)) = 0
        rw [ih]
        rfl
    unfold ruleD
    simp [PyData.depth, PyData.depthAll, h4]
  unfold SeqAt.shaped
  simp [PyData.canLay0, PyData.canLayAll0, PyData.depth, PyData.depthAll, h2]
  omega
theorem pair_eqv {o : Str} {t l : Int} {ps : List Int} {m : Int} (h : RuleOk o t l ps m) : PyData.eqv (.tuple [.bool false, ruleD o t l ps m]) (.tuple [.bool false, ruleD o t l ps m]) = true := SeqAt.eqv_refl _ (SeqAt.canLay_of_shaped (pair_shaped h))
theorem ruleT_ok {o : Str} {t l : Int} {ps : List Int} {m : Int} (h : RuleOk o t l ps m) : sOk (ruleT o t l ps m) := by
  obtain ⟨ho, ht, hl, ⟨hp1, hp2⟩, hm⟩ := h
  refine join_ok (ws := [o, numT t, numT l, joinT (ps.map numT) ",", numT m]) fun w hw => ?_
  simp only [List.mem_cons, List.not_mem_nil, or_false] at hw
  rcases hw with rfl | rfl | rfl | rfl | rfl
  · rcases ho with rfl | rfl <;> decide +kernel
  · exact (num_ok (by omega) (by omega)).1
  · exact (num_ok (by omega) (by omega)).1
  · unfold joinT
    split
    · decide +kernel
    · rw [show (PySem.Str.ofString ",") = SX.S [44] from rfl, join_eq, sOk_iff]
      intro c hc
      rcases joinL_mem hc with hc | ⟨p, hp, hc⟩
      · rw [List.mem_singleton.mp hc]
        decide
      · obtain ⟨w, hw, rfl⟩ := List.mem_map.mp hp
        obtain ⟨n, hn, rfl⟩ := List.mem_map.mp hw
        have := hp2 n hn
        exact sOk_iff.mp (num_ok (n := n) (by omega) (by omega)).1 c hc
  · exact (num_ok (by omega) (by omega)).1

abbrev s_law : Stmt := topS 39
abbrev N_law : List Str := ["_law_script", "_law_k", "_law_state_here", "_law_many", "_law_text_here", "_law_turn", "_law_due"]
theorem sc_law : FnScope N_law ["_law_script"] (defScope s_law) := ⟨rfl, rfl, rfl, by decide +kernel, rfl, by decide +kernel, by decide +kernel⟩
def sp_law (K : PySem.W.Frag) : Sp := fun vs H Q E => arg1 (fun s => ∃ ns, ScrL K H s ns ∧ Wf H ∧ ∀ H', Q (.bl true) H') vs
theorem ok_law {P : Program} {w : World} {K : PySem.W.Frag} {mg : Str → Option Value} {base : Heap} {f : Addr} {fd : FuncData} (F : Fun K "law" "law" s_law f fd) {c : Ad} (T : Txt K mg c) : FnOk P w K mg base CX0 7 f fd ["_law_script"] (sp_law K) := by
  refine F.ok sc_law (fun vs H Q E h => ?_) (fun cdv A outer sh H vs Q E hr h => ?_)
  · obtain ⟨s, rfl, h⟩ := arg1.ex h
    rfl
  · obtain ⟨s, rfl, h⟩ := arg1.ex h
    refine ⟨_, pss_cons (ps_for (PassesOwn.never) rfl (pi_range1 (by rfl) T.m_range (pa_cons (pe_op (opU_add (K := K)) pe_int (pe_callB (callU_min2 rfl) (by rfl) T.m_min (by decide +kernel) (pa_cons (pe_callB (callU_len (K := K)) (by rfl) T.m_len (by decide +kernel) (pa_cons (lv 0) pa_nil)) (pa_cons pe_int pa_nil)))) pa_nil)) (pg_name (i := 1) sc_law.nd rfl (.inl rfl))
      (pss_cons (ps_set (i := 2) sc_law.nd rfl (.inl rfl) (pe_f (ok__law_state (K := K) T) (hr.mono (by decide)) passL (pa_cons (pe_f (ok__law_cell_at (K := K) T) (hr.mono (by decide)) passL (pa_cons (lv 0) (pa_cons (lv 1) pa_nil))) (pa_cons (lv 1) pa_nil))))
      (pss_cons (ps_set (i := 3) sc_law.nd rfl (.inl rfl) (pe_op (opU_add (K := K)) pe_int (pe_f (ok__law_digit (K := K) T) (hr.mono (by decide)) passL (pa_cons (lv 2) (pa_cons pe_int pa_nil)))))
      (pss_cons (ps_set (i := 4) sc_law.nd rfl (.inl rfl) (pe_f (ok__law_text (K := K) T) (hr.mono (by decide)) passL (pa_cons (pe_f (ok__law_rule (K := K) T) (hr.mono (by decide)) passL (pa_cons (lv 2) pa_nil)) pa_nil)))
      (pss_cons (ps_for (PassesOwn.never) rfl (pi_range1 (by rfl) T.m_range (pa_cons (lv 3) pa_nil)) (pg_name (i := 5) sc_law.nd rfl (.inl rfl))
      (pss_cons (ps_set (i := 4) sc_law.nd rfl (.inl rfl) (pe_f (ok__law_spoilt (K := K) T) (hr.mono (by decide)) passL (pa_cons (lv 2) (pa_cons (lv 4) pa_nil))))
      (pss_cons (ps_set (i := 6) sc_law.nd rfl (.inl rfl) (pe_f (ok__law_read (K := K) T) (hr.mono (by decide)) passL (pa_cons (lv 4) pa_nil)))
      (pss_cons (ps_if (pt_cmpU (opU_ne (K := K) hr) (pe_f (ok__law_told (K := K) T) hr passL (pa_cons (lv 4) pa_nil)) (pe_ix (ixU (K := K)) (pe_lst (pa_cons (pe_tup (pa_cons pe_bl (pa_cons (lv 6) pa_nil))) (pa_cons (pe_tup (pa_cons pe_bl (pa_cons pe_bl pa_nil))) pa_nil))) (pe_callTy callU_int (by rfl) T.m_int (by decide +kernel) (pa_cons (pe_cmpR opU_is (lv 6) pe_non (nomark _)) pa_nil)) (fun _ _ => rfl)) (nomark _))
      (pss_one (ps_ret pe_bl)) pss_nil)
      (pss_one (ps_if (PW.pt (pw_and (pt_cmpU opU_isnot (lv 6) pe_non (nomark _)) (pw_and1 (pt_cmpU (opU_ne (K := K) hr) (pe_fS (ok_rule_text (K := K) T) (hr.mono (by decide)) takes0 (pa_cons (lv 6) pa_nil)) (lv 4) (nomark _)))))
      (pss_one (ps_ret pe_bl)) pss_nil))))))
      (pss_one (ps_if (pt_cmpU (opU_ne (K := K) hr) (pe_f (ok__law_told (K := K) T) hr passL (pa_cons (pe_ix (ixU (K := K)) (pe_lst (pa_cons pe_non (pa_cons pe_int (pa_cons pe_bl (pa_cons (pe_split (lv 4) pe_str) (pa_cons (pe_tup (pa_cons pe_str pa_nil)) (pa_cons pe_dnewK pa_nil))))))) (pe_f (ok__law_digit (K := K) T) (hr.mono (by decide)) passL (pa_cons (lv 2) (pa_cons pe_int pa_nil))) (fun _ _ => rfl)) pa_nil)) (pe_tup (pa_cons pe_bl (pa_cons pe_bl pa_nil))) (nomark _))
      (pss_one (ps_ret pe_bl)) pss_nil)))))))
      (pss_one (ps_ret pe_bl)), ?_⟩
    obtain ⟨ns, ⟨a0, rfl, hS, hl⟩, wf, k⟩ := h
    refine .inl ⟨_, .inl hS, _, rfl, by split <;> omega, by split <;> omega, ?_⟩
    refine for_range (lo := 0) (n := _) (fun i σ H' => Same H H' ∧ Wf H' ∧ ∃ x1 x2 x3 x4 x5 x6, σ = [some (.ref a0), x1, x2, x3, x4, x5, x6]) ⟨Same.refl _, wf, _, _, _, _, _, _, rfl⟩ (fun i σ H' hi hp => ?_) (fun σ H' hp => k H')
    obtain ⟨sm, w1, x1, x2, x3, x4, x5, x6, rfl⟩ := hp
    have hi2 : i < 64 := by
      have e : ((ns.map V.int).length : Int) = ns.length := by rw [List.length_map]
      rw [e] at hi
      split at hi <;> omega
    refine ⟨ns, _, ⟨a0, rfl, sm.seq hS, hl⟩, rfl, by omega, w1, fun n => ?_⟩
    refine ⟨n, _, rfl, rfl, by omega, by omega, w1, fun p q a na hp => ?_⟩
    have s0 : St2 (upd H' a (stL p q)) a := ⟨p, q, upd_same, hp⟩
    have dB0 := Dr.refl s0 (w1.new (o := stL p q) trivial na)
    have sm0 : Same H' (upd H' a (stL p q)) := same_new na
    have smH : ∀ {H2 : Hp}, Dr a (upd H' a (stL p q)) H2 → Same H H2 := fun {H2} d b o e => d.kp b o (ne_of_none (sm _ _ e) na) (sm0 b o (sm _ _ e))
    generalize upd H' a (stL p q) = HB0 at s0 dB0 smH ⊢
    refine ⟨a, 3, rfl, rfl, dB0.st, bas_lt (by decide) (by decide), dB0.wf, fun rB1 pB1 qB1 gB1 lB1 nB1 => ?_⟩
    have dB1 := dB0.drawn (q := qB1) nB1
    generalize upd HB0 a (stL pB1 qB1) = HB1 at dB1  ⊢
    refine ⟨a, rfl, dB1.st, dB1.wf, fun v HB2 o t l ps m dR ra ok => ?_⟩
    have dB2 := dB1.trans dR
    refine ⟨o, t, l, ps, m, ra, ok, dB2.wf, ?_⟩
    have lT := (ruleT_len ok).1
    have sT := ruleT_ok ok
    generalize ruleT o t l ps m = z0 at lT sT ⊢
    refine ⟨_, rfl, by omega, by omega, ?_⟩
    refine for_range (lo := 0) (n := (1 + rB1).toNat) (fun j σ H' => ∃ (z : Str) (y5 y6 : Option V), σ = [some (.ref a0), some (.int (0 + i)), some (.ref a), some (.int (1 + rB1)), some (.str z), y5, y6] ∧ z.length + 100 ≤ 300 * 4 ^ j ∧ sOk z ∧ Dr a HB0 H') ⟨z0, _, _, rfl, by omega, sT, dB2⟩ (fun j σ HL0 hj hp => ?_) (fun σ HM0 hp => ?_)
    · obtain ⟨z, y5, y6, rfl, hz, sz, dL0⟩ := hp
      have hj3 : j < 3 := by omega
      have h4 : (4 : Nat) ^ j ≤ 16 := Nat.le_trans (Nat.pow_le_pow_right (by decide) (show j ≤ 2 by omega)) (by decide)
      refine ⟨a, z, rfl, rfl, by omega, sz, dL0.st, dL0.wf, fun z' HM hz' sz' dM => ?_⟩
      have dM' := dL0.trans dM
      have hz2 : z'.length + 100 ≤ 300 * 4 ^ (j + 1) := by rw [Nat.pow_succ]; omega
      have hz3 : z'.length ≤ 100000 := by omega
      refine ⟨z', rfl, hz3, sz', dM'.wf, fun e => ?_, fun d r HN e dd smN wN => ?_⟩
      · refine ⟨dM'.wf, .inl ⟨z', rfl, hz3, fun _ q HN hq smN wN => ?_, fun d r q H'' e2 => (by rw [e] at e2; cases e2)⟩⟩
        refine ⟨line_of (show 2 ≤ 16777216 by decide), fun y1 ny1 => ?_⟩
        have sA := smN.trans (same_new (o := .tup [.bl false, .non]) ny1)
        have wA := wN.new (o := .tup [.bl false, .non]) trivial ny1
        have hqA := same_tups (same_new (o := .tup [.bl false, .non]) ny1) _ _ hq
        generalize upd HN y1 (.tup [.bl false, .non]) = HA at sA wA hqA ⊢
        refine ⟨line_of (show 2 ≤ 16777216 by decide), fun y2 ny2 => ?_⟩
        have sB := sA.trans (same_new (o := .tup [.bl true, .bl true]) ny2)
        have wB := wA.new (o := .tup [.bl true, .bl true]) trivial ny2
        have hqB := same_tups (same_new (o := .tup [.bl true, .bl true]) ny2) _ _ hqA
        have eB : (upd HA y2 (.tup [.bl true, .bl true])) y2 = some (.tup [.bl true, .bl true]) := upd_same
        generalize upd HA y2 (.tup [.bl true, .bl true]) = HB at sB wB hqB eB ⊢
        refine ⟨line_of (show 2 ≤ 16777216 by decide), fun y3 ny3 => ?_⟩
        have sC := sB.trans (same_new (o := .lst [.ref y1, .ref y2]) ny3)
        have wC := wB.new (o := .lst [.ref y1, .ref y2]) trivial ny3
        have hqC := same_tups (same_new (o := .lst [.ref y1, .ref y2]) ny3) _ _ hqB
        have eB' := same_new (o := .lst [.ref y1, .ref y2]) ny3 _ _ eB
        have eC : (upd HB y3 (.lst [.ref y1, .ref y2])) y3 = some (.lst [.ref y1, .ref y2]) := upd_same
        generalize upd HB y3 (.lst [.ref y1, .ref y2]) = HC at sC wC hqC eB' eC ⊢
        refine ⟨_, _, .inl (.inl (.inl eC)), rfl, ?_⟩
        refine ⟨.tuple [.bool true, .bool true], .tuple [.bool true, .bool true], .tup hqC (.cons (.bl _) (.cons (.bl _) .nil)), .tup (.inl (.inl eB')) (.cons (.bl _) (.cons (.bl _) .nil)), rfl, rfl, ?_⟩
        exact ⟨z', _, _, rfl, hz2, sz', dM'.trans (Dr.same' sC dM'.st wC)⟩
      · obtain ⟨o1, t1, l1, ps1, m1, rfl, ok1, rfl⟩ := read_exact e
        refine ⟨wN, .inl ⟨_, rfl, hz3, fun e2 => (by rw [e] at e2; cases e2), fun d2 r2 q HO e2 dd2 hq smO wO => ?_⟩⟩
        rw [e] at e2
        cases e2
        have smO' := smN.trans smO
        have ddO := dp_keep smO dd
        refine ⟨line_of (show 2 ≤ 16777216 by decide), fun y1 ny1 => ?_⟩
        have sm1 := same_new (o := .tup [.bl false, .ref r]) ny1
        have sA := smO'.trans sm1
        have wA := wO.new (o := .tup [.bl false, .ref r]) trivial ny1
        have hqA := same_tups sm1 _ _ hq
        have ddA := dp_keep sm1 ddO
        have dd2A := dp_keep sm1 dd2
        have eA : (upd HO y1 (.tup [.bl false, .ref r])) y1 = some (.tup [.bl false, .ref r]) := upd_same
        generalize upd HO y1 (.tup [.bl false, .ref r]) = HA at sA wA hqA eA ddA dd2A ⊢
        refine ⟨line_of (show 2 ≤ 16777216 by decide), fun y2 ny2 => ?_⟩
        have sm2 := same_new (o := .tup [.bl true, .bl true]) ny2
        have sB := sA.trans sm2
        have wB := wA.new (o := .tup [.bl true, .bl true]) trivial ny2
        have hqB := same_tups sm2 _ _ hqA
        have ddB := dp_keep sm2 ddA
        have dd2B := dp_keep sm2 dd2A
        have eB := sm2 _ _ eA
        generalize upd HA y2 (.tup [.bl true, .bl true]) = HB at sB wB hqB eB ddB dd2B ⊢
        refine ⟨line_of (show 2 ≤ 16777216 by decide), fun y3 ny3 => ?_⟩
        have sm3 := same_new (o := .lst [.ref y1, .ref y2]) ny3
        have sC := sB.trans sm3
        have wC := wB.new (o := .lst [.ref y1, .ref y2]) trivial ny3
        have hqC := same_tups sm3 _ _ hqB
        have ddC := dp_keep sm3 ddB
        have dd2C := dp_keep sm3 dd2B
        have eB' := sm3 _ _ eB
        have eC : (upd HB y3 (.lst [.ref y1, .ref y2])) y3 = some (.lst [.ref y1, .ref y2]) := upd_same
        generalize upd HB y3 (.lst [.ref y1, .ref y2]) = HC at sC wC hqC eB' eC ddC dd2C ⊢
        refine ⟨_, _, .inl (.inl (.inl eC)), rfl, ?_⟩
        refine ⟨_, _, .tup hqC (.cons (.bl _) (.cons dd2C .nil)), .tup (.inl (.inl eB')) (.cons (.bl _) (.cons ddC .nil)), pair_shaped ok1, pair_shaped ok1, ?_⟩
        rw [pair_eqv ok1]
        refine ⟨o1, t1, l1, ps1, m1, ddC, ok1, wC, ?_⟩
        refine iteB (c := !decide (V.str (ruleT o1 t1 l1 ps1 m1) = V.str (ruleT o1 t1 l1 ps1 m1))) (fun z => absurd rfl (nd_t z)) (fun _ => ?_)
        exact ⟨_, _, _, rfl, hz2, sz', dM'.trans (Dr.same' sC dM'.st wC)⟩
    · obtain ⟨z, y5, y6, rfl, hz, sz, dM0⟩ := hp
      have h4 : (4 : Nat) ^ (1 + rB1).toNat ≤ 64 := Nat.le_trans (Nat.pow_le_pow_right (by decide) (show (1 + rB1).toNat ≤ 3 by omega)) (by decide)
      have hs := split_parts (z := z) (c := 32) (by decide)
      refine ⟨⟨_, rfl⟩, _, _, rfl, rfl, rfl, line_of (by omega), fun p np => ?_⟩
      have nep := st_ne dM0.st np
      have dM1 := dM0.new (p := p) (o := .lst ((Txt.split z (PySem.Str.ofString " ")).map V.str)) np trivial
      have ep : (upd HM0 p (.lst ((Txt.split z (PySem.Str.ofString " ")).map V.str))) p = some (.lst ((Txt.split z (PySem.Str.ofString " ")).map V.str)) := upd_same
      generalize (Txt.split z (PySem.Str.ofString " ")).map V.str = L at dM1 ep ⊢
      generalize upd HM0 p (.lst L) = HM1 at dM1 ep ⊢
      refine ⟨line_of (show 1 ≤ 16777216 by decide), fun y2 ny2 => ?_⟩
      have ney2 := st_ne dM1.st ny2
      have dM2 := dM1.new (p := y2) (o := .tup [.str "put"]) ny2 trivial
      replace ep := same_new (o := .tup [.str "put"]) ny2 _ _ ep
      have ey2 : (upd HM1 y2 (.tup [.str "put"])) y2 = some (.tup [.str "put"]) := upd_same
      generalize upd HM1 y2 (.tup [.str "put"]) = HM2 at dM2 ey2 ep ⊢
      refine fun y3 ny3 => ?_
      have ney3 := st_ne dM2.st ny3
      have dM3 := dM2.new (p := y3) (o := .dK []) ny3 trivial
      replace ep := same_new (o := .dK []) ny3 _ _ ep
      replace ey2 := same_new (o := .dK []) ny3 _ _ ey2
      have ey3 : (upd HM2 y3 (.dK [])) y3 = some (.dK []) := upd_same
      generalize upd HM2 y3 (.dK []) = HM3 at dM3 ey3 ep ey2 ⊢
      refine ⟨line_of (show 6 ≤ 16777216 by decide), fun y4 ny4 => ?_⟩
      have ney4 := st_ne dM3.st ny4
      have dM4 := dM3.new (p := y4) (o := .lst [.non, .int 7, .bl true, .ref p, .ref y2, .ref y3]) ny4 trivial
      replace ep := same_new (o := .lst [.non, .int 7, .bl true, .ref p, .ref y2, .ref y3]) ny4 _ _ ep
      replace ey2 := same_new (o := .lst [.non, .int 7, .bl true, .ref p, .ref y2, .ref y3]) ny4 _ _ ey2
      replace ey3 := same_new (o := .lst [.non, .int 7, .bl true, .ref p, .ref y2, .ref y3]) ny4 _ _ ey3
      have ey4 : (upd HM3 y4 (.lst [.non, .int 7, .bl true, .ref p, .ref y2, .ref y3])) y4 = some (.lst [.non, .int 7, .bl true, .ref p, .ref y2, .ref y3]) := upd_same
      generalize upd HM3 y4 (.lst [.non, .int 7, .bl true, .ref p, .ref y2, .ref y3]) = HM4 at dM4 ey4 ep ey2 ey3 ⊢
      refine ⟨a, 6, rfl, rfl, dM4.st, bas_lt (by decide) (by decide), dM4.wf, fun rM5 pM5 qM5 gM5 lM5 nM5 => ?_⟩
      have dM5 := dM4.drawn (q := qM5) nM5
      replace ep := (upd_ne (o := stL pM5 qM5) nep).trans ep
      replace ey2 := (upd_ne (o := stL pM5 qM5) ney2).trans ey2
      replace ey3 := (upd_ne (o := stL pM5 qM5) ney3).trans ey3
      replace ey4 := (upd_ne (o := stL pM5 qM5) ney4).trans ey4
      generalize upd HM4 a (stL pM5 qM5) = HM5 at dM5 ep ey2 ey3 ey4 ⊢
      obtain ⟨odd, hodd, mo⟩ := at_lt (xs := [V.non, .int 7, .bl true, .ref p, .ref y2, .ref y3]) gM5 (by exact lM5)
      refine ⟨_, odd, .inl (.inl (.inl ey4)), hodd, ?_⟩
      have hk : Kn K HM5 odd ∧ isStr odd = false := by
        simp only [List.mem_cons, List.not_mem_nil, or_false] at mo
        rcases mo with rfl | rfl | rfl | rfl | rfl | rfl
        · exact ⟨trivial, rfl⟩
        · exact ⟨trivial, rfl⟩
        · exact ⟨trivial, rfl⟩
        · exact ⟨.inl (.base (.lst ep)), rfl⟩
        · exact ⟨.inr (.inl (.base (.tup ey2))), rfl⟩
        · exact ⟨.inr (.inr (.base (.dK ey3))), rfl⟩
      refine ⟨dM5.wf, .inr ⟨hk.1, hk.2, fun q HN hq smN wN => ?_⟩⟩
      refine ⟨line_of (show 2 ≤ 16777216 by decide), fun y7 ny7 => ?_⟩
      have sm7 := same_new (o := .tup [.bl true, .bl true]) ny7
      refine ⟨.tuple [.bool true, .bool true], .tuple [.bool true, .bool true], .tup (same_tups sm7 _ _ hq) (.cons (.bl _) (.cons (.bl _) .nil)), .tup (.inl (.inl upd_same)) (.cons (.bl _) (.cons (.bl _) .nil)), rfl, rfl, ?_⟩
      have w7 := wN.new (o := .tup [.bl true, .bl true]) trivial ny7
      exact ⟨smH (dM5.trans (Dr.same' (smN.trans sm7) dM5.st w7)), w7, _, _, _, _, _, _, rfl⟩
theorem all_mk {l : PySem.W.OpenLaw} {w : World} {K : PySem.W.Frag} {h : Heap} {mg : Str → Option Value} {fa : Addr} (X : K.In h) (G : h.Ns mainGlobals mg) (hfa : mg "law" = some (.ref fa))
    {f1 : Addr} {od1 an1 : Option Addr} {sl1 : Array (Option Value)} {oc1 kV1 dc1 pm1 cd1 ct1 : Value}
    (a1 : PySem.W.nsIn K mainGlobals "is_whole" = some (some (.ref f1))) (l1 : K.lookup f1 = some ⟨oc1, od1, .func (PySem.W.fnOf "is_whole" "is_whole" (defArgs (topS 9)) (defBody (topS 9)) (defScope (topS 9)) .none kV1 dc1 pm1 an1 cd1 ct1), sl1⟩) (c1 : PySem.W.codeIn K cd1 "is_whole" = true) (k1 : PySem.W.keepIn K (.ref f1) = true)
    {f2 : Addr} {od2 an2 : Option Addr} {sl2 : Array (Option Value)} {oc2 kV2 dc2 pm2 cd2 ct2 : Value}
    (a2 : PySem.W.nsIn K mainGlobals "whole_of" = some (some (.ref f2))) (l2 : K.lookup f2 = some ⟨oc2, od2, .func (PySem.W.fnOf "whole_of" "whole_of" (defArgs (topS 10)) (defBody (topS 10)) (defScope (topS 10)) .none kV2 dc2 pm2 an2 cd2 ct2), sl2⟩) (c2 : PySem.W.codeIn K cd2 "whole_of" = true) (k2 : PySem.W.keepIn K (.ref f2) = true)
    {f3 : Addr} {od3 an3 : Option Addr} {sl3 : Array (Option Value)} {oc3 kV3 dc3 pm3 cd3 ct3 : Value}
    (a3 : PySem.W.nsIn K mainGlobals "joined" = some (some (.ref f3))) (l3 : K.lookup f3 = some ⟨oc3, od3, .func (PySem.W.fnOf "joined" "joined" (defArgs (topS 11)) (defBody (topS 11)) (defScope (topS 11)) .none kV3 dc3 pm3 an3 cd3 ct3), sl3⟩) (c3 : PySem.W.codeIn K cd3 "joined" = true) (k3 : PySem.W.keepIn K (.ref f3) = true)
    {f4 : Addr} {od4 an4 : Option Addr} {sl4 : Array (Option Value)} {oc4 kV4 dc4 pm4 cd4 ct4 : Value}
    (a4 : PySem.W.nsIn K mainGlobals "are_pauses" = some (some (.ref f4))) (l4 : K.lookup f4 = some ⟨oc4, od4, .func (PySem.W.fnOf "are_pauses" "are_pauses" (defArgs (topS 18)) (defBody (topS 18)) (defScope (topS 18)) .none kV4 dc4 pm4 an4 cd4 ct4), sl4⟩) (c4 : PySem.W.codeIn K cd4 "are_pauses" = true) (k4 : PySem.W.keepIn K (.ref f4) = true)
    {f5 : Addr} {od5 an5 : Option Addr} {sl5 : Array (Option Value)} {oc5 kV5 dc5 pm5 cd5 ct5 : Value}
    (a5 : PySem.W.nsIn K mainGlobals "is_rule" = some (some (.ref f5))) (l5 : K.lookup f5 = some ⟨oc5, od5, .func (PySem.W.fnOf "is_rule" "is_rule" (defArgs (topS 19)) (defBody (topS 19)) (defScope (topS 19)) .none kV5 dc5 pm5 an5 cd5 ct5), sl5⟩) (c5 : PySem.W.codeIn K cd5 "is_rule" = true) (k5 : PySem.W.keepIn K (.ref f5) = true)
    {f6 : Addr} {od6 an6 : Option Addr} {sl6 : Array (Option Value)} {oc6 kV6 dc6 pm6 cd6 ct6 : Value}
    (a6 : PySem.W.nsIn K mainGlobals "sure_rule" = some (some (.ref f6))) (l6 : K.lookup f6 = some ⟨oc6, od6, .func (PySem.W.fnOf "sure_rule" "sure_rule" (defArgs (topS 20)) (defBody (topS 20)) (defScope (topS 20)) .none kV6 dc6 pm6 an6 cd6 ct6), sl6⟩) (c6 : PySem.W.codeIn K cd6 "sure_rule" = true) (k6 : PySem.W.keepIn K (.ref f6) = true)
    {f7 : Addr} {od7 an7 : Option Addr} {sl7 : Array (Option Value)} {oc7 kV7 dc7 pm7 cd7 ct7 : Value}
    (a7 : PySem.W.nsIn K mainGlobals "rule_text" = some (some (.ref f7))) (l7 : K.lookup f7 = some ⟨oc7, od7, .func (PySem.W.fnOf "rule_text" "rule_text" (defArgs (topS 21)) (defBody (topS 21)) (defScope (topS 21)) .none kV7 dc7 pm7 an7 cd7 ct7), sl7⟩) (c7 : PySem.W.codeIn K cd7 "rule_text" = true) (k7 : PySem.W.keepIn K (.ref f7) = true)
    {f8 : Addr} {od8 an8 : Option Addr} {sl8 : Array (Option Value)} {oc8 kV8 dc8 pm8 cd8 ct8 : Value}
    (a8 : PySem.W.nsIn K mainGlobals "pauses_of" = some (some (.ref f8))) (l8 : K.lookup f8 = some ⟨oc8, od8, .func (PySem.W.fnOf "pauses_of" "pauses_of" (defArgs (topS 22)) (defBody (topS 22)) (defScope (topS 22)) .none kV8 dc8 pm8 an8 cd8 ct8), sl8⟩) (c8 : PySem.W.codeIn K cd8 "pauses_of" = true) (k8 : PySem.W.keepIn K (.ref f8) = true)
    {f9 : Addr} {od9 an9 : Option Addr} {sl9 : Array (Option Value)} {oc9 kV9 dc9 pm9 cd9 ct9 : Value}
    (a9 : PySem.W.nsIn K mainGlobals "rule_of" = some (some (.ref f9))) (l9 : K.lookup f9 = some ⟨oc9, od9, .func (PySem.W.fnOf "rule_of" "rule_of" (defArgs (topS 23)) (defBody (topS 23)) (defScope (topS 23)) .none kV9 dc9 pm9 an9 cd9 ct9), sl9⟩) (c9 : PySem.W.codeIn K cd9 "rule_of" = true) (k9 : PySem.W.keepIn K (.ref f9) = true)
    {f10 : Addr} {od10 an10 : Option Addr} {sl10 : Array (Option Value)} {oc10 kV10 dc10 pm10 cd10 ct10 : Value}
    (a10 : PySem.W.nsIn K mainGlobals "read_rule" = some (some (.ref f10))) (l10 : K.lookup f10 = some ⟨oc10, od10, .func (PySem.W.fnOf "read_rule" "read_rule" (defArgs (topS 24)) (defBody (topS 24)) (defScope (topS 24)) .none kV10 dc10 pm10 an10 cd10 ct10), sl10⟩) (c10 : PySem.W.codeIn K cd10 "read_rule" = true) (k10 : PySem.W.keepIn K (.ref f10) = true)
    {f11 : Addr} {od11 an11 : Option Addr} {sl11 : Array (Option Value)} {oc11 kV11 dc11 pm11 cd11 ct11 : Value}
    (a11 : PySem.W.nsIn K mainGlobals "_law_cell_at" = some (some (.ref f11))) (l11 : K.lookup f11 = some ⟨oc11, od11, .func (PySem.W.fnOf "_law_cell_at" "_law_cell_at" (defArgs (topS 26)) (defBody (topS 26)) (defScope (topS 26)) .none kV11 dc11 pm11 an11 cd11 ct11), sl11⟩) (c11 : PySem.W.codeIn K cd11 "_law_cell_at" = true) (k11 : PySem.W.keepIn K (.ref f11) = true)
    {f12 : Addr} {od12 an12 : Option Addr} {sl12 : Array (Option Value)} {oc12 kV12 dc12 pm12 cd12 ct12 : Value}
    (a12 : PySem.W.nsIn K mainGlobals "_law_state" = some (some (.ref f12))) (l12 : K.lookup f12 = some ⟨oc12, od12, .func (PySem.W.fnOf "_law_state" "_law_state" (defArgs (topS 27)) (defBody (topS 27)) (defScope (topS 27)) .none kV12 dc12 pm12 an12 cd12 ct12), sl12⟩) (c12 : PySem.W.codeIn K cd12 "_law_state" = true) (k12 : PySem.W.keepIn K (.ref f12) = true)
    {f13 : Addr} {od13 an13 : Option Addr} {sl13 : Array (Option Value)} {oc13 kV13 dc13 pm13 cd13 ct13 : Value}
    (a13 : PySem.W.nsIn K mainGlobals "_law_mixed" = some (some (.ref f13))) (l13 : K.lookup f13 = some ⟨oc13, od13, .func (PySem.W.fnOf "_law_mixed" "_law_mixed" (defArgs (topS 28)) (defBody (topS 28)) (defScope (topS 28)) .none kV13 dc13 pm13 an13 cd13 ct13), sl13⟩) (c13 : PySem.W.codeIn K cd13 "_law_mixed" = true) (k13 : PySem.W.keepIn K (.ref f13) = true)
    {f14 : Addr} {od14 an14 : Option Addr} {sl14 : Array (Option Value)} {oc14 kV14 dc14 pm14 cd14 ct14 : Value}
    (a14 : PySem.W.nsIn K mainGlobals "_law_digit" = some (some (.ref f14))) (l14 : K.lookup f14 = some ⟨oc14, od14, .func (PySem.W.fnOf "_law_digit" "_law_digit" (defArgs (topS 29)) (defBody (topS 29)) (defScope (topS 29)) .none kV14 dc14 pm14 an14 cd14 ct14), sl14⟩) (c14 : PySem.W.codeIn K cd14 "_law_digit" = true) (k14 : PySem.W.keepIn K (.ref f14) = true)
    {f15 : Addr} {od15 an15 : Option Addr} {sl15 : Array (Option Value)} {oc15 kV15 dc15 pm15 cd15 ct15 : Value}
    (a15 : PySem.W.nsIn K mainGlobals "_law_rule" = some (some (.ref f15))) (l15 : K.lookup f15 = some ⟨oc15, od15, .func (PySem.W.fnOf "_law_rule" "_law_rule" (defArgs (topS 30)) (defBody (topS 30)) (defScope (topS 30)) .none kV15 dc15 pm15 an15 cd15 ct15), sl15⟩) (c15 : PySem.W.codeIn K cd15 "_law_rule" = true) (k15 : PySem.W.keepIn K (.ref f15) = true)
    {f16 : Addr} {od16 an16 : Option Addr} {sl16 : Array (Option Value)} {oc16 kV16 dc16 pm16 cd16 ct16 : Value}
    (a16 : PySem.W.nsIn K mainGlobals "_law_text" = some (some (.ref f16))) (l16 : K.lookup f16 = some ⟨oc16, od16, .func (PySem.W.fnOf "_law_text" "_law_text" (defArgs (topS 31)) (defBody (topS 31)) (defScope (topS 31)) .none kV16 dc16 pm16 an16 cd16 ct16), sl16⟩) (c16 : PySem.W.codeIn K cd16 "_law_text" = true) (k16 : PySem.W.keepIn K (.ref f16) = true)
    {f17 : Addr} {od17 an17 : Option Addr} {sl17 : Array (Option Value)} {oc17 kV17 dc17 pm17 cd17 ct17 : Value}
    (a17 : PySem.W.nsIn K mainGlobals "_law_whole" = some (some (.ref f17))) (l17 : K.lookup f17 = some ⟨oc17, od17, .func (PySem.W.fnOf "_law_whole" "_law_whole" (defArgs (topS 32)) (defBody (topS 32)) (defScope (topS 32)) .none kV17 dc17 pm17 an17 cd17 ct17), sl17⟩) (c17 : PySem.W.codeIn K cd17 "_law_whole" = true) (k17 : PySem.W.keepIn K (.ref f17) = true)
    {f18 : Addr} {od18 an18 : Option Addr} {sl18 : Array (Option Value)} {oc18 kV18 dc18 pm18 cd18 ct18 : Value}
    (a18 : PySem.W.nsIn K mainGlobals "_law_read" = some (some (.ref f18))) (l18 : K.lookup f18 = some ⟨oc18, od18, .func (PySem.W.fnOf "_law_read" "_law_read" (defArgs (topS 33)) (defBody (topS 33)) (defScope (topS 33)) .none kV18 dc18 pm18 an18 cd18 ct18), sl18⟩) (c18 : PySem.W.codeIn K cd18 "_law_read" = true) (k18 : PySem.W.keepIn K (.ref f18) = true)
    {f19 : Addr} {od19 an19 : Option Addr} {sl19 : Array (Option Value)} {oc19 kV19 dc19 pm19 cd19 ct19 : Value}
    (a19 : PySem.W.nsIn K mainGlobals "_law_by_sign" = some (some (.ref f19))) (l19 : K.lookup f19 = some ⟨oc19, od19, .func (PySem.W.fnOf "_law_by_sign" "_law_by_sign" (defArgs (topS 34)) (defBody (topS 34)) (defScope (topS 34)) .none kV19 dc19 pm19 an19 cd19 ct19), sl19⟩) (c19 : PySem.W.codeIn K cd19 "_law_by_sign" = true) (k19 : PySem.W.keepIn K (.ref f19) = true)
    {f20 : Addr} {od20 an20 : Option Addr} {sl20 : Array (Option Value)} {oc20 kV20 dc20 pm20 cd20 ct20 : Value}
    (a20 : PySem.W.nsIn K mainGlobals "_law_by_word" = some (some (.ref f20))) (l20 : K.lookup f20 = some ⟨oc20, od20, .func (PySem.W.fnOf "_law_by_word" "_law_by_word" (defArgs (topS 35)) (defBody (topS 35)) (defScope (topS 35)) .none kV20 dc20 pm20 an20 cd20 ct20), sl20⟩) (c20 : PySem.W.codeIn K cd20 "_law_by_word" = true) (k20 : PySem.W.keepIn K (.ref f20) = true)
    {f21 : Addr} {od21 an21 : Option Addr} {sl21 : Array (Option Value)} {oc21 kV21 dc21 pm21 cd21 ct21 : Value}
    (a21 : PySem.W.nsIn K mainGlobals "_law_by_number" = some (some (.ref f21))) (l21 : K.lookup f21 = some ⟨oc21, od21, .func (PySem.W.fnOf "_law_by_number" "_law_by_number" (defArgs (topS 36)) (defBody (topS 36)) (defScope (topS 36)) .none kV21 dc21 pm21 an21 cd21 ct21), sl21⟩) (c21 : PySem.W.codeIn K cd21 "_law_by_number" = true) (k21 : PySem.W.keepIn K (.ref f21) = true)
    {f22 : Addr} {od22 an22 : Option Addr} {sl22 : Array (Option Value)} {oc22 kV22 dc22 pm22 cd22 ct22 : Value}
    (a22 : PySem.W.nsIn K mainGlobals "_law_spoilt" = some (some (.ref f22))) (l22 : K.lookup f22 = some ⟨oc22, od22, .func (PySem.W.fnOf "_law_spoilt" "_law_spoilt" (defArgs (topS 37)) (defBody (topS 37)) (defScope (topS 37)) .none kV22 dc22 pm22 an22 cd22 ct22), sl22⟩) (c22 : PySem.W.codeIn K cd22 "_law_spoilt" = true) (k22 : PySem.W.keepIn K (.ref f22) = true)
    {f23 : Addr} {od23 an23 : Option Addr} {sl23 : Array (Option Value)} {oc23 kV23 dc23 pm23 cd23 ct23 : Value}
    (a23 : PySem.W.nsIn K mainGlobals "_law_told" = some (some (.ref f23))) (l23 : K.lookup f23 = some ⟨oc23, od23, .func (PySem.W.fnOf "_law_told" "_law_told" (defArgs (topS 38)) (defBody (topS 38)) (defScope (topS 38)) .none kV23 dc23 pm23 an23 cd23 ct23), sl23⟩) (c23 : PySem.W.codeIn K cd23 "_law_told" = true) (k23 : PySem.W.keepIn K (.ref f23) = true)
    {f24 : Addr} {od24 an24 : Option Addr} {sl24 : Array (Option Value)} {oc24 kV24 dc24 pm24 cd24 ct24 : Value}
    (a24 : PySem.W.nsIn K mainGlobals "law" = some (some (.ref f24))) (l24 : K.lookup f24 = some ⟨oc24, od24, .func (PySem.W.fnOf "law" "law" (defArgs (topS 39)) (defBody (topS 39)) (defScope (topS 39)) .none kV24 dc24 pm24 an24 cd24 ct24), sl24⟩) (c24 : PySem.W.codeIn K cd24 "law" = true) (k24 : PySem.W.keepIn K (.ref f24) = true)
    (hn0 : PySem.W.specialIn K (.builtin "object.__class__") "__get__" = some (some (.builtin "getset_descriptor.__get__")))
    (ht0 : PySem.W.takesIn K (.builtin "object.__class__") = some true)
    {C_LentError : Addr}
    (aC_LentError : PySem.W.nsIn K mainGlobals "LentError" = some (some (.ref C_LentError)))
    (ha_LentError : PySem.W.findIn K (.ref C_LentError) "__class__" = some (some (.builtin "object.__class__")))
    (hm_LentError : PySem.W.mroIn K C_LentError (.type "object") = some true)
    (hd_LentError : PySem.W.hasDictIn K C_LentError = true)
    (kc_LentError : PySem.W.keepIn K (.ref C_LentError) = true)
    (xx_LentError : PySem.W.excIn K C_LentError R.veB "ValueError.__new__" = true)
    (xb_LentError : PySem.W.subIn K (.ref C_LentError) (.type "BaseException") = some true)
    (xt_LentError : PySem.W.typeIn K (.ref C_LentError) = some (.type "type"))
    (xv_LentError : PySem.W.subIn K (.ref C_LentError) (.type "ValueError") = some true)
    (xg_LentError : PySem.W.findIn K (.ref C_LentError) "__getattribute__" = some (some (.builtin "BaseException.__getattribute__")))
    (xh_LentError : PySem.W.findIn K (.ref C_LentError) "__getattr__" = some none)
    {C_NoRule : Addr}
    (aC_NoRule : PySem.W.nsIn K mainGlobals "NoRule" = some (some (.ref C_NoRule)))
    (ha_NoRule : PySem.W.findIn K (.ref C_NoRule) "__class__" = some (some (.builtin "object.__class__")))
    (hm_NoRule : PySem.W.mroIn K C_NoRule (.type "object") = some true)
    (hd_NoRule : PySem.W.hasDictIn K C_NoRule = true)
    (kc_NoRule : PySem.W.keepIn K (.ref C_NoRule) = true)
    (xx_NoRule : PySem.W.excIn K C_NoRule R.veB "ValueError.__new__" = true)
    (xb_NoRule : PySem.W.subIn K (.ref C_NoRule) (.type "BaseException") = some true)
    (xt_NoRule : PySem.W.typeIn K (.ref C_NoRule) = some (.type "type"))
    (xv_NoRule : PySem.W.subIn K (.ref C_NoRule) (.type "ValueError") = some true)
    (xg_NoRule : PySem.W.findIn K (.ref C_NoRule) "__getattribute__" = some (some (.builtin "BaseException.__getattribute__")))
    (xh_NoRule : PySem.W.findIn K (.ref C_NoRule) "__getattr__" = some none)
    {C_NoTry : Addr}
    (aC_NoTry : PySem.W.nsIn K mainGlobals "NoTry" = some (some (.ref C_NoTry)))
    (ha_NoTry : PySem.W.findIn K (.ref C_NoTry) "__class__" = some (some (.builtin "object.__class__")))
    (hm_NoTry : PySem.W.mroIn K C_NoTry (.type "object") = some true)
    (hd_NoTry : PySem.W.hasDictIn K C_NoTry = true)
    (kc_NoTry : PySem.W.keepIn K (.ref C_NoTry) = true)
    (xx_NoTry : PySem.W.excIn K C_NoTry R.veB "ValueError.__new__" = true)
    (xb_NoTry : PySem.W.subIn K (.ref C_NoTry) (.type "BaseException") = some true)
    (xt_NoTry : PySem.W.typeIn K (.ref C_NoTry) = some (.type "type"))
    (xv_NoTry : PySem.W.subIn K (.ref C_NoTry) (.type "ValueError") = some true)
    (xg_NoTry : PySem.W.findIn K (.ref C_NoTry) "__getattribute__" = some (some (.builtin "BaseException.__getattribute__")))
    (xh_NoTry : PySem.W.findIn K (.ref C_NoTry) "__getattr__" = some none)
    {C_NoText : Addr}
    (aC_NoText : PySem.W.nsIn K mainGlobals "NoText" = some (some (.ref C_NoText)))
    (ha_NoText : PySem.W.findIn K (.ref C_NoText) "__class__" = some (some (.builtin "object.__class__")))
    (hm_NoText : PySem.W.mroIn K C_NoText (.type "object") = some true)
    (hd_NoText : PySem.W.hasDictIn K C_NoText = true)
    (kc_NoText : PySem.W.keepIn K (.ref C_NoText) = true)
    (xx_NoText : PySem.W.excIn K C_NoText R.veB "ValueError.__new__" = true)
    (xb_NoText : PySem.W.subIn K (.ref C_NoText) (.type "BaseException") = some true)
    (xt_NoText : PySem.W.typeIn K (.ref C_NoText) = some (.type "type"))
    (xv_NoText : PySem.W.subIn K (.ref C_NoText) (.type "ValueError") = some true)
    (xg_NoText : PySem.W.findIn K (.ref C_NoText) "__getattribute__" = some (some (.builtin "BaseException.__getattribute__")))
    (xh_NoText : PySem.W.findIn K (.ref C_NoText) "__getattr__" = some none)
    {C_NoRow : Addr}
    (aC_NoRow : PySem.W.nsIn K mainGlobals "NoRow" = some (some (.ref C_NoRow)))
    (ha_NoRow : PySem.W.findIn K (.ref C_NoRow) "__class__" = some (some (.builtin "object.__class__")))
    (hm_NoRow : PySem.W.mroIn K C_NoRow (.type "object") = some true)
    (hd_NoRow : PySem.W.hasDictIn K C_NoRow = true)
    (kc_NoRow : PySem.W.keepIn K (.ref C_NoRow) = true)
    (xx_NoRow : PySem.W.excIn K C_NoRow R.veB "ValueError.__new__" = true)
    (xb_NoRow : PySem.W.subIn K (.ref C_NoRow) (.type "BaseException") = some true)
    (xt_NoRow : PySem.W.typeIn K (.ref C_NoRow) = some (.type "type"))
    (xv_NoRow : PySem.W.subIn K (.ref C_NoRow) (.type "ValueError") = some true)
    (xg_NoRow : PySem.W.findIn K (.ref C_NoRow) "__getattribute__" = some (some (.builtin "BaseException.__getattribute__")))
    (xh_NoRow : PySem.W.findIn K (.ref C_NoRow) "__getattr__" = some none)
    (u_NoRule_LentError : PySem.W.subIn K (.ref C_NoRule) (.ref C_LentError) = some true)
    (u_NoRule_NoRow : PySem.W.subIn K (.ref C_NoRule) (.ref C_NoRow) = some false)
    (u_NoRule_NoText : PySem.W.subIn K (.ref C_NoRule) (.ref C_NoText) = some false)
    (u_NoRule_NoTry : PySem.W.subIn K (.ref C_NoRule) (.ref C_NoTry) = some false)
    (u_NoRule_NoRule : PySem.W.subIn K (.ref C_NoRule) (.ref C_NoRule) = some true)
    {a_ORDERS : Addr} {dd_ORDERS : Option Addr} {n_ORDERS : Nat} {sl_ORDERS : Array (Option Value)} {tk_ORDERS0 : Tok} {tk_ORDERS1 : Tok}
    (aT_ORDERS : PySem.W.nsIn K mainGlobals "ORDERS" = some (some (.ref a_ORDERS)))
    (lT_ORDERS : K.lookup a_ORDERS = some ⟨.type "tuple", dd_ORDERS, .seq #[.str "put" tk_ORDERS0, .str "turns" tk_ORDERS1] n_ORDERS, sl_ORDERS⟩)
    (z_isinstance : PySem.W.nsIn K mainGlobals "isinstance" = some none)
    (z_int : PySem.W.nsIn K mainGlobals "int" = some none)
    (z_bool : PySem.W.nsIn K mainGlobals "bool" = some none)
    (z_all : PySem.W.nsIn K mainGlobals "all" = some none)
    (z_len : PySem.W.nsIn K mainGlobals "len" = some none)
    (z_tuple : PySem.W.nsIn K mainGlobals "tuple" = some none)
    (z_str : PySem.W.nsIn K mainGlobals "str" = some none)
    (z_range : PySem.W.nsIn K mainGlobals "range" = some none)
    (z_ValueError : PySem.W.nsIn K mainGlobals "ValueError" = some none)
    (z_min : PySem.W.nsIn K mainGlobals "min" = some none)
    {tk_MOST_FIGURES : Tok} (c_MOST_FIGURES : PySem.W.nsIn K mainGlobals "MOST_FIGURES" = some (some (.int 13 tk_MOST_FIGURES)))
    {tk_FIGURES : Tok} (c_FIGURES : PySem.W.nsIn K mainGlobals "FIGURES" = some (some (.str "0123456789" tk_FIGURES)))
    {tk_MOST_PAUSES : Tok} (c_MOST_PAUSES : PySem.W.nsIn K mainGlobals "MOST_PAUSES" = some (some (.int 10 tk_MOST_PAUSES)))
    {tk_MOST_SPAN : Tok} (c_MOST_SPAN : PySem.W.nsIn K mainGlobals "MOST_SPAN" = some (some (.int 1000000 tk_MOST_SPAN)))
    {tk_MOST_OUT : Tok} (c_MOST_OUT : PySem.W.nsIn K mainGlobals "MOST_OUT" = some (some (.int 200 tk_MOST_OUT)))
    {tk_MOST_TRIES : Tok} (c_MOST_TRIES : PySem.W.nsIn K mainGlobals "MOST_TRIES" = some (some (.int 20 tk_MOST_TRIES))) :
    ∃ fd : FuncData, (∀ (s : Shared) (v : Value), BindsTo s fd ⟨[v], []⟩ [("_law_script", v)]) ∧ ∀ base : Heap, K.In base → base.Ns mainGlobals mg → FnOk l.prog w K mg base CX0 7 fa fd ["_law_script"] (sp_law K) := by
  have e := hfa.symm.trans (PySem.W.mg_of X G a24)
  cases e
  have T : Txt K mg ⟨C_LentError, C_NoRule, C_NoTry, C_NoText, C_NoRow⟩ := { x_LentError := ⟨PySem.W.mg_of X G aC_LentError, xx_LentError, kc_LentError, xb_LentError, xt_LentError, hd_LentError, xv_LentError, ⟨xg_LentError, xh_LentError, xb_LentError, hd_LentError, ha_LentError, hn0, ht0, hm_LentError⟩⟩, x_NoRule := ⟨PySem.W.mg_of X G aC_NoRule, xx_NoRule, kc_NoRule, xb_NoRule, xt_NoRule, hd_NoRule, xv_NoRule, ⟨xg_NoRule, xh_NoRule, xb_NoRule, hd_NoRule, ha_NoRule, hn0, ht0, hm_NoRule⟩⟩, x_NoTry := ⟨PySem.W.mg_of X G aC_NoTry, xx_NoTry, kc_NoTry, xb_NoTry, xt_NoTry, hd_NoTry, xv_NoTry, ⟨xg_NoTry, xh_NoTry, xb_NoTry, hd_NoTry, ha_NoTry, hn0, ht0, hm_NoTry⟩⟩, x_NoText := ⟨PySem.W.mg_of X G aC_NoText, xx_NoText, kc_NoText, xb_NoText, xt_NoText, hd_NoText, xv_NoText, ⟨xg_NoText, xh_NoText, xb_NoText, hd_NoText, ha_NoText, hn0, ht0, hm_NoText⟩⟩, x_NoRow := ⟨PySem.W.mg_of X G aC_NoRow, xx_NoRow, kc_NoRow, xb_NoRow, xt_NoRow, hd_NoRow, xv_NoRow, ⟨xg_NoRow, xh_NoRow, xb_NoRow, hd_NoRow, ha_NoRow, hn0, ht0, hm_NoRow⟩⟩, u_NoRule_LentError := u_NoRule_LentError, u_NoRule_NoRow := u_NoRule_NoRow, u_NoRule_NoText := u_NoRule_NoText, u_NoRule_NoTry := u_NoRule_NoTry, u_NoRule_NoRule := u_NoRule_NoRule, t_ORDERS := ⟨a_ORDERS, ⟨_, PySem.W.mg_of X G aT_ORDERS, rfl⟩, fun H => .inr ⟨_, _, _, lT_ORDERS, rfl, rfl, R.line_of (show 2 ≤ 16777216 by decide), (.cons ⟨_, rfl⟩ (.cons ⟨_, rfl⟩ Paired.nil))⟩⟩, m_isinstance := PySem.W.mg_none_of X G z_isinstance, m_int := PySem.W.mg_none_of X G z_int, m_bool := PySem.W.mg_none_of X G z_bool, m_all := PySem.W.mg_none_of X G z_all, m_len := PySem.W.mg_none_of X G z_len, m_tuple := PySem.W.mg_none_of X G z_tuple, m_str := PySem.W.mg_none_of X G z_str, m_range := PySem.W.mg_none_of X G z_range, m_ValueError := PySem.W.mg_none_of X G z_ValueError, m_min := PySem.W.mg_none_of X G z_min, g_MOST_FIGURES := ⟨_, PySem.W.mg_of X G c_MOST_FIGURES, ⟨_, rfl⟩⟩, g_FIGURES := ⟨_, PySem.W.mg_of X G c_FIGURES, ⟨_, rfl⟩⟩, g_MOST_PAUSES := ⟨_, PySem.W.mg_of X G c_MOST_PAUSES, ⟨_, rfl⟩⟩, g_MOST_SPAN := ⟨_, PySem.W.mg_of X G c_MOST_SPAN, ⟨_, rfl⟩⟩, g_MOST_OUT := ⟨_, PySem.W.mg_of X G c_MOST_OUT, ⟨_, rfl⟩⟩, g_MOST_TRIES := ⟨_, PySem.W.mg_of X G c_MOST_TRIES, ⟨_, rfl⟩⟩, f_is_whole := ⟨_, _, PySem.W.mg_of X G a1, fun_mk (st := topS 9) l1 c1 k1, (fun_mk (st := topS 9) l1 c1 k1).binds (ps := ["thing", "low", "high"]) fun _ _ _ _ _ _ us hl => match us, hl with | [_, _, _], _ => rfl⟩, f_whole_of := ⟨_, _, PySem.W.mg_of X G a2, fun_mk (st := topS 10) l2 c2 k2, (fun_mk (st := topS 10) l2 c2 k2).binds (ps := ["word"]) fun _ _ _ _ _ _ us hl => match us, hl with | [_], _ => rfl⟩, f_joined := ⟨_, _, PySem.W.mg_of X G a3, fun_mk (st := topS 11) l3 c3 k3, (fun_mk (st := topS 11) l3 c3 k3).binds (ps := ["words", "between"]) fun _ _ _ _ _ _ us hl => match us, hl with | [_, _], _ => rfl⟩, f_are_pauses := ⟨_, _, PySem.W.mg_of X G a4, fun_mk (st := topS 18) l4 c4 k4, (fun_mk (st := topS 18) l4 c4 k4).binds (ps := ["thing"]) fun _ _ _ _ _ _ us hl => match us, hl with | [_], _ => rfl⟩, f_is_rule := ⟨_, _, PySem.W.mg_of X G a5, fun_mk (st := topS 19) l5 c5 k5, (fun_mk (st := topS 19) l5 c5 k5).binds (ps := ["thing"]) fun _ _ _ _ _ _ us hl => match us, hl with | [_], _ => rfl⟩, f_sure_rule := ⟨_, _, PySem.W.mg_of X G a6, fun_mk (st := topS 20) l6 c6 k6, (fun_mk (st := topS 20) l6 c6 k6).binds (ps := ["rule"]) fun _ _ _ _ _ _ us hl => match us, hl with | [_], _ => rfl⟩, f_rule_text := ⟨_, _, PySem.W.mg_of X G a7, fun_mk (st := topS 21) l7 c7 k7, (fun_mk (st := topS 21) l7 c7 k7).binds (ps := ["rule"]) fun _ _ _ _ _ _ us hl => match us, hl with | [_], _ => rfl⟩, f_pauses_of := ⟨_, _, PySem.W.mg_of X G a8, fun_mk (st := topS 22) l8 c8 k8, (fun_mk (st := topS 22) l8 c8 k8).binds (ps := ["word"]) fun _ _ _ _ _ _ us hl => match us, hl with | [_], _ => rfl⟩, f_rule_of := ⟨_, _, PySem.W.mg_of X G a9, fun_mk (st := topS 23) l9 c9 k9, (fun_mk (st := topS 23) l9 c9 k9).binds (ps := ["words"]) fun _ _ _ _ _ _ us hl => match us, hl with | [_], _ => rfl⟩, f_read_rule := ⟨_, _, PySem.W.mg_of X G a10, fun_mk (st := topS 24) l10 c10 k10, (fun_mk (st := topS 24) l10 c10 k10).binds (ps := ["text"]) fun _ _ _ _ _ _ us hl => match us, hl with | [_], _ => rfl⟩, f__law_cell_at := ⟨_, _, PySem.W.mg_of X G a11, fun_mk (st := topS 26) l11 c11 k11, (fun_mk (st := topS 26) l11 c11 k11).binds (ps := ["_law_script", "_law_k"]) fun _ _ _ _ _ _ us hl => match us, hl with | [_, _], _ => rfl⟩, f__law_state := ⟨_, _, PySem.W.mg_of X G a12, fun_mk (st := topS 27) l12 c12 k12, (fun_mk (st := topS 27) l12 c12 k12).binds (ps := ["_law_cell", "_law_k"]) fun _ _ _ _ _ _ us hl => match us, hl with | [_, _], _ => rfl⟩, f__law_mixed := ⟨_, _, PySem.W.mg_of X G a13, fun_mk (st := topS 28) l13 c13 k13, (fun_mk (st := topS 28) l13 c13 k13).binds (ps := ["_law_number"]) fun _ _ _ _ _ _ us hl => match us, hl with | [_], _ => rfl⟩, f__law_digit := ⟨_, _, PySem.W.mg_of X G a14, fun_mk (st := topS 29) l14 c14 k14, (fun_mk (st := topS 29) l14 c14 k14).binds (ps := ["_law_state_here", "_law_base"]) fun _ _ _ _ _ _ us hl => match us, hl with | [_, _], _ => rfl⟩, f__law_rule := ⟨_, _, PySem.W.mg_of X G a15, fun_mk (st := topS 30) l15 c15 k15, (fun_mk (st := topS 30) l15 c15 k15).binds (ps := ["_law_state_here"]) fun _ _ _ _ _ _ us hl => match us, hl with | [_], _ => rfl⟩, f__law_text := ⟨_, _, PySem.W.mg_of X G a16, fun_mk (st := topS 31) l16 c16 k16, (fun_mk (st := topS 31) l16 c16 k16).binds (ps := ["_law_rule_here"]) fun _ _ _ _ _ _ us hl => match us, hl with | [_], _ => rfl⟩, f__law_whole := ⟨_, _, PySem.W.mg_of X G a17, fun_mk (st := topS 32) l17 c17 k17, (fun_mk (st := topS 32) l17 c17 k17).binds (ps := ["_law_word", "_law_low", "_law_high"]) fun _ _ _ _ _ _ us hl => match us, hl with | [_, _, _], _ => rfl⟩, f__law_read := ⟨_, _, PySem.W.mg_of X G a18, fun_mk (st := topS 33) l18 c18 k18, (fun_mk (st := topS 33) l18 c18 k18).binds (ps := ["_law_text_here"]) fun _ _ _ _ _ _ us hl => match us, hl with | [_], _ => rfl⟩, f__law_by_sign := ⟨_, _, PySem.W.mg_of X G a19, fun_mk (st := topS 34) l19 c19 k19, (fun_mk (st := topS 34) l19 c19 k19).binds (ps := ["_law_state_here", "_law_text_here"]) fun _ _ _ _ _ _ us hl => match us, hl with | [_, _], _ => rfl⟩, f__law_by_word := ⟨_, _, PySem.W.mg_of X G a20, fun_mk (st := topS 35) l20 c20 k20, (fun_mk (st := topS 35) l20 c20 k20).binds (ps := ["_law_state_here", "_law_text_here"]) fun _ _ _ _ _ _ us hl => match us, hl with | [_, _], _ => rfl⟩, f__law_by_number := ⟨_, _, PySem.W.mg_of X G a21, fun_mk (st := topS 36) l21 c21 k21, (fun_mk (st := topS 36) l21 c21 k21).binds (ps := ["_law_state_here", "_law_text_here"]) fun _ _ _ _ _ _ us hl => match us, hl with | [_, _], _ => rfl⟩, f__law_spoilt := ⟨_, _, PySem.W.mg_of X G a22, fun_mk (st := topS 37) l22 c22 k22, (fun_mk (st := topS 37) l22 c22 k22).binds (ps := ["_law_state_here", "_law_text_here"]) fun _ _ _ _ _ _ us hl => match us, hl with | [_, _], _ => rfl⟩, f__law_told := ⟨_, _, PySem.W.mg_of X G a23, fun_mk (st := topS 38) l23 c23 k23, (fun_mk (st := topS 38) l23 c23 k23).binds (ps := ["_law_text_here"]) fun _ _ _ _ _ _ us hl => match us, hl with | [_], _ => rfl⟩ }
  exact ⟨PySem.W.fnOf "law" "law" (defArgs s_law) (defBody s_law) (defScope s_law) .none kV24 dc24 pm24 an24 cd24 ct24, fun s v => .of_eq rfl, fun base _ _ => ok_law (fun_mk (st := s_law) l24 c24 k24) T⟩
end W
open PySem PySem.W PyProof.Rows
set_option maxRecDepth 100000 in
set_option maxHeartbeats 0 in
theorem PySem.Challenge.cw_rowlent_k07_texts_of_no_rule_holds : PySem.Challenge.rw_rowlent_k07_texts_of_no_rule.Holds := by
  w_on; o_law; k_head; (case hw => w_witness2)
  k_fill
  refine L2.walk_ofK (l := PySem.Challenge.rw_rowlent_k07_texts_of_no_rule) (n := 63) (k := 7) (x := "_law_script") (CX := L2.CX0) (sp := W.sp_law) rfl (by decide) rfl ⟨rfl, by decide, by decide⟩ (fun w h Y => PySem.W.kIn_of Y) ?F (fun _ _ a ns hl hO hS => ⟨ns, ⟨a, rfl, hS, hl⟩, R.wf_only hO, fun _ => rfl⟩) (fun _ _ _ _ h => h)
  case F =>
    intro w mg fa h KX G hmg
    refine' W.all_mk KX G hmg ?a1 ?l1 ?c1 ?k1 ?a2 ?l2 ?c2 ?k2 ?a3 ?l3 ?c3 ?k3 ?a4 ?l4 ?c4 ?k4 ?a5 ?l5 ?c5 ?k5 ?a6 ?l6 ?c6 ?k6 ?a7 ?l7 ?c7 ?k7 ?a8 ?l8 ?c8 ?k8 ?a9 ?l9 ?c9 ?k9 ?a10 ?l10 ?c10 ?k10 ?a11 ?l11 ?c11 ?k11 ?a12 ?l12 ?c12 ?k12 ?a13 ?l13 ?c13 ?k13 ?a14 ?l14 ?c14 ?k14 ?a15 ?l15 ?c15 ?k15 ?a16 ?l16 ?c16 ?k16 ?a17 ?l17 ?c17 ?k17 ?a18 ?l18 ?c18 ?k18 ?a19 ?l19 ?c19 ?k19 ?a20 ?l20 ?c20 ?k20 ?a21 ?l21 ?c21 ?k21 ?a22 ?l22 ?c22 ?k22 ?a23 ?l23 ?c23 ?k23 ?a24 ?l24 ?c24 ?k24 ?hn0 ?ht0 ?aC_LentError ?ha_LentError ?hm_LentError ?hd_LentError ?kc_LentError ?xx_LentError ?xb_LentError ?xt_LentError ?xv_LentError ?xg_LentError ?xh_LentError ?aC_NoRule ?ha_NoRule ?hm_NoRule ?hd_NoRule ?kc_NoRule ?xx_NoRule ?xb_NoRule ?xt_NoRule ?xv_NoRule ?xg_NoRule ?xh_NoRule ?aC_NoTry ?ha_NoTry ?hm_NoTry ?hd_NoTry ?kc_NoTry ?xx_NoTry ?xb_NoTry ?xt_NoTry ?xv_NoTry ?xg_NoTry ?xh_NoTry ?aC_NoText ?ha_NoText ?hm_NoText ?hd_NoText ?kc_NoText ?xx_NoText ?xb_NoText ?xt_NoText ?xv_NoText ?xg_NoText ?xh_NoText ?aC_NoRow ?ha_NoRow ?hm_NoRow ?hd_NoRow ?kc_NoRow ?xx_NoRow ?xb_NoRow ?xt_NoRow ?xv_NoRow ?xg_NoRow ?xh_NoRow ?u_NoRule_LentError ?u_NoRule_NoRow ?u_NoRule_NoText ?u_NoRule_NoTry ?u_NoRule_NoRule ?aT_ORDERS ?lT_ORDERS ?z_isinstance ?z_int ?z_bool ?z_all ?z_len ?z_tuple ?z_str ?z_range ?z_ValueError ?z_min ?c_MOST_FIGURES ?c_FIGURES ?c_MOST_PAUSES ?c_MOST_SPAN ?c_MOST_OUT ?c_MOST_TRIES
    (case a1 => k_is)
    (case l1 => k_is)
    (case c1 => k_is)
    (case k1 => k_is)
    (case a2 => k_is)
    (case l2 => k_is)
    (case c2 => k_is)
    (case k2 => k_is)
    (case a3 => k_is)
    (case l3 => k_is)
    (case c3 => k_is)
    (case k3 => k_is)
    (case a4 => k_is)
    (case l4 => k_is)
    (case c4 => k_is)
    (case k4 => k_is)
    (case a5 => k_is)
    (case l5 => k_is)
    (case c5 => k_is)
    (case k5 => k_is)
    (case a6 => k_is)
    (case l6 => k_is)
    (case c6 => k_is)
    (case k6 => k_is)
    (case a7 => k_is)
    (case l7 => k_is)
    (case c7 => k_is)
    (case k7 => k_is)
    (case a8 => k_is)
    (case l8 => k_is)
    (case c8 => k_is)
    (case k8 => k_is)
    (case a9 => k_is)
    (case l9 => k_is)
    (case c9 => k_is)
    (case k9 => k_is)
    (case a10 => k_is)
    (case l10 => k_is)
    (case c10 => k_is)
    (case k10 => k_is)
    (case a11 => k_is)
    (case l11 => k_is)
    (case c11 => k_is)
    (case k11 => k_is)
    (case a12 => k_is)
    (case l12 => k_is)
    (case c12 => k_is)
    (case k12 => k_is)
    (case a13 => k_is)
    (case l13 => k_is)
    (case c13 => k_is)
    (case k13 => k_is)
    (case a14 => k_is)
    (case l14 => k_is)
    (case c14 => k_is)
    (case k14 => k_is)
    (case a15 => k_is)
    (case l15 => k_is)
    (case c15 => k_is)
    (case k15 => k_is)
    (case a16 => k_is)
    (case l16 => k_is)
    (case c16 => k_is)
    (case k16 => k_is)
    (case a17 => k_is)
    (case l17 => k_is)
    (case c17 => k_is)
    (case k17 => k_is)
    (case a18 => k_is)
    (case l18 => k_is)
    (case c18 => k_is)
    (case k18 => k_is)
    (case a19 => k_is)
    (case l19 => k_is)
    (case c19 => k_is)
    (case k19 => k_is)
    (case a20 => k_is)
    (case l20 => k_is)
    (case c20 => k_is)
    (case k20 => k_is)
    (case a21 => k_is)
    (case l21 => k_is)
    (case c21 => k_is)
    (case k21 => k_is)
    (case a22 => k_is)
    (case l22 => k_is)
    (case c22 => k_is)
    (case k22 => k_is)
    (case a23 => k_is)
    (case l23 => k_is)
    (case c23 => k_is)
    (case k23 => k_is)
    (case a24 => k_is)
    (case l24 => k_is)
    (case c24 => k_is)
    (case k24 => k_is)
    (case hn0 => k_is)
    (case ht0 => k_is)
    (case aC_LentError => k_is)
    (case ha_LentError => k_is)
    (case hm_LentError => k_is)
    (case hd_LentError => k_is)
    (case kc_LentError => k_is)
    (case xx_LentError => k_exc)
    (case xb_LentError => k_is)
    (case xt_LentError => k_is)
    (case xv_LentError => k_is)
    (case xg_LentError => k_is)
    (case xh_LentError => k_is)
    (case aC_NoRule => k_is)
    (case ha_NoRule => k_is)
    (case hm_NoRule => k_is)
    (case hd_NoRule => k_is)
    (case kc_NoRule => k_is)
    (case xx_NoRule => k_exc)
    (case xb_NoRule => k_is)
    (case xt_NoRule => k_is)
    (case xv_NoRule => k_is)
    (case xg_NoRule => k_is)
    (case xh_NoRule => k_is)
    (case aC_NoTry => k_is)
    (case ha_NoTry => k_is)
    (case hm_NoTry => k_is)
    (case hd_NoTry => k_is)
    (case kc_NoTry => k_is)
    (case xx_NoTry => k_exc)
    (case xb_NoTry => k_is)
    (case xt_NoTry => k_is)
    (case xv_NoTry => k_is)
    (case xg_NoTry => k_is)
    (case xh_NoTry => k_is)
    (case aC_NoText => k_is)
    (case ha_NoText => k_is)
    (case hm_NoText => k_is)
    (case hd_NoText => k_is)
    (case kc_NoText => k_is)
    (case xx_NoText => k_exc)
    (case xb_NoText => k_is)
    (case xt_NoText => k_is)
    (case xv_NoText => k_is)
    (case xg_NoText => k_is)
    (case xh_NoText => k_is)
    (case aC_NoRow => k_is)
    (case ha_NoRow => k_is)
    (case hm_NoRow => k_is)
    (case hd_NoRow => k_is)
    (case kc_NoRow => k_is)
    (case xx_NoRow => k_exc)
    (case xb_NoRow => k_is)
    (case xt_NoRow => k_is)
    (case xv_NoRow => k_is)
    (case xg_NoRow => k_is)
    (case xh_NoRow => k_is)
    (case u_NoRule_LentError => first | rfl | k_is)
    (case u_NoRule_NoRow => first | rfl | k_is)
    (case u_NoRule_NoText => first | rfl | k_is)
    (case u_NoRule_NoTry => first | rfl | k_is)
    (case u_NoRule_NoRule => first | rfl | k_is)
    (case aT_ORDERS => k_is)
    (case lT_ORDERS => k_is)
    (case z_isinstance => k_is)
    (case z_int => k_is)
    (case z_bool => k_is)
    (case z_all => k_is)
    (case z_len => k_is)
    (case z_tuple => k_is)
    (case z_str => k_is)
    (case z_range => k_is)
    (case z_ValueError => k_is)
    (case z_min => k_is)
    (case c_MOST_FIGURES => k_is)
    (case c_FIGURES => k_is)
    (case c_MOST_PAUSES => k_is)
    (case c_MOST_SPAN => k_is)
    (case c_MOST_OUT => k_is)
    (case c_MOST_TRIES => k_is)
