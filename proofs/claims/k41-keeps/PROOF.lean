import PyProof.Rows.All
import Wide.All
import OpenK.AllK
import Wide.FinOn
import HandS.ForMost
import HandS.ForExc
import HandS.IsInst
import HandS.Wide
import HandS.Flow
import HandS.Walk
import HandS.Codes
import HandS.Conv
import HandS.WordsExc
import HandS.ExcOwn
import HandS.ExcIs
import HandS.TryOnly
import HandS.TryMany
import HandS.WordsDict
import HandS.Style
import HandS.Deep
import HandS.TupAny
import HandS.TupMul
import HandS.SortInts
import HandS.ListItems
import HandS.SortRule
import PyProof.StrBlock2
import HandS.Sort
import HandS.SortOrd
import KE.KDictSum
import PySem.Challenge.RW_rowlent_k41_what_a_hand_keeps
set_option Elab.async false
set_option linter.all false
set_option maxRecDepth 100000
set_option maxHeartbeats 4000000

namespace R
open PySem PySem.Spec PyProof.Rows L2
/-! ### heaps that may be cut back to what is wanted -/
def Flat : HO → Prop
  | .dT kvs => kvs = []
  | .ins _ _ _ => False
  | .frz _ u => Flat u
  | _ => True
def Wf (H : Hp) : Prop := ∀ a o, H a = some o → Flat o ∨ ∃ C dx fs, o = .ins C dx fs ∧ H dx = some (.own a)
theorem flat_ok {P : Program} {w : World} {H H2 : Hp} {h : Heap} {a : Addr} {o : HO} (f : Flat o) (x : ObjOk P w H h a o) : ObjOk P w H2 h a o := by
  induction o with
  | dT kvs =>
    have e : kvs = [] := f
    subst e
    obtain ⟨z, y, xs, r, q⟩ := x
    cases r
    exact ⟨z, y, [], .nil, q⟩
  | ins C dx fs => exact f.elim
  | frz ob u ih => exact ⟨x.1, ih f x.2⟩
  | lst xs => exact x
  | tup xs => exact x
  | dK kvs => exact x
  | set S n => exact x
  | own y => exact x
  | xd fs => exact x
  | met g y => exact x
  | rng lo hi => exact x
  | tbl ps => exact x
  | ext φ => exact x
/-- H2: what is kept of H' behind a piece of code that began in H -/
structure Back (H H2 H' : Hp) : Prop where
  sub : ∀ a o, H2 a = some o → H' a = some o
  kp : ∀ a o, H a = some o → H2 a = H' a
  wf : Wf H2
theorem Back.refl {H H' : Hp} (w : Wf H') : Back H H' H' := ⟨fun _ _ h => h, fun _ _ _ => rfl, w⟩
theorem Back.hok {P : Program} {w : World} {H H2 H' : Hp} {h : Heap} (b : Back H H2 H') (x : HOk P w H' h) : HOk P w H2 h := fun a o e => by
  have q := x a o (b.sub a o e)
  rcases b.wf a o e with f | ⟨C, dx, fs, rfl, hd⟩
  · exact flat_ok f q
  · obtain ⟨_, z⟩ := q
    exact ⟨hd, z⟩
theorem Back.un {fs ex : List Addr} {H0 H H2 H' : Hp} {h h' : Heap} (b : Back H H2 H') (u0 : ∀ a o, H0 a = some o → (∀ xs, o = .tup xs → H a = some o) ∧ (∀ z y, o = .frz z y → H a = some o) ∧ (∀ ps, o = .tbl ps → ∃ m, H a = some (.tbl m)))
    (u : Un fs ex H0 H' h h') : Un fs ex H0 H2 h h' where
  keep := u.keep
  slot := u.slot
  there := u.there
  free := fun c ob q n hx => by
    have z := u.free c ob q n hx
    cases e : H2 c with
    | none => rfl
    | some x =>
      have y := b.sub c x e
      rw [z] at y
      cases y
  tups := fun c xs q => by
    have z := (u0 c _ q).1 xs rfl
    rw [b.kp c _ z]
    exact u.tups c xs q
  frzs := fun c ob x q => by
    have z := (u0 c _ q).2.1 ob x rfl
    rw [b.kp c _ z]
    exact u.frzs c ob x q
  tbls := fun c ps q => by
    obtain ⟨m, z⟩ := (u0 c _ q).2.2 ps rfl
    rw [b.kp c _ z]
    exact u.tbls c ps q
theorem Back.un0 {fs ex : List Addr} {H H2 H' : Hp} {h h' : Heap} (b : Back H H2 H') (u : Un fs ex H H' h h') : Un fs ex H H2 h h' :=
  b.un (fun a o e => ⟨fun xs r => e, fun _ _ _ => e, fun ps r => ⟨ps, by rw [e, r]⟩⟩) u
theorem Back.ub {fs : List Addr} {H H2 H' : Hp} {h B h' : Heap} (b : Back H H2 H') (u : UB fs H H' h B h') : UB fs H H2 h B h' where
  keep := u.keep
  slot := u.slot
  there := u.there
  free := fun c ob q n => by
    have z := u.free c ob q n
    cases e : H2 c with
    | none => rfl
    | some x =>
      have y := b.sub c x e
      rw [z] at y
      cases y
  tups := fun c xs q => by
    rw [b.kp c _ q]
    exact u.tups c xs q
  frzs := fun c ob x q => by
    rw [b.kp c _ q]
    exact u.frzs c ob x q
  tbls := fun c ps q => by
    rw [b.kp c _ q]
    exact u.tbls c ps q
def bQ (H : Hp) (Q : VK) : VK := fun v H' => ∃ H2, Back H H2 H' ∧ Q v H2
def bE (H : Hp) (E : XK) : XK := fun c d H' => ∃ H2, Back H H2 H' ∧ E c d H2
theorem bQ.mk {H : Hp} {Q : VK} {v : V} {H' : Hp} (w : Wf H') (q : Q v H') : bQ H Q v H' := ⟨H', Back.refl w, q⟩
section
variable {P : Program} {w : World} {K : PySem.W.Frag} {mg : Str → Option Value} {base : Heap} {k : Nat} {f : Addr} {fd : FuncData} {ps : List Str} {sp : Sp}
theorem ce_back {outer : List Env} {H : Hp} {s s' : Shared} {Q : VK} {u : Value} (h : CE outer P w H s (bQ H Q) u s') : CE outer P w H s Q u s' := by
  obtain ⟨v, H', os, bare, un, hok, r, H2, b, q⟩ := h
  exact ⟨v, H2, os, bare, b.un0 un, b.hok hok, r, q⟩
theorem cx_back {outer : List Env} {H : Hp} {s s' : Shared} {E : XK} {u : Value} (h : L2.CX P w outer H s (bE H E) u s') : L2.CX P w outer H s E u s' := by
  obtain ⟨a, B, H', cls, d, e, fl, hok, ub, na, os, ag, H2, b, q⟩ := h
  refine ⟨a, B, H2, cls, d, e, fl, b.hok hok, b.ub ub, ?_, os, ag, q⟩
  cases z : H2 a with
  | none => rfl
  | some x =>
    have y := b.sub a x z
    rw [na] at y
    cases y
/-- a promise over a heap that is cut back -/
def spB (sp : Sp) : Sp := fun vs H Q' E' => ∃ Q E, Q' = bQ H Q ∧ E' = bE H E ∧ sp vs H Q E
theorem fn_backX (F : FnOk P w K mg base (L2.CX P w) k f fd ps (spB sp)) : FnOk P w K mg base (L2.CX P w) k f fd ps sp := by
  refine ⟨fun vs H Q E q => F.len vs H (bQ H Q) (bE H E) ⟨Q, E, rfl, rfl, q⟩, fun A outer s H args us vs Q E hr he hb hv hs => ?_⟩
  refine codeAny_mono (F.run A outer s H args us vs (bQ H Q) (bE H E) hr he hb hv ⟨Q, E, rfl, rfl, hs⟩) fun r s' hq => ?_
  cases r with
  | error e => exact cx_back hq
  | ok fl =>
    cases fl with
    | ret u => exact ce_back hq
    | next => exact hq
    | brk => exact hq
    | cont => exact hq
theorem fn_back (F : FnOk P w K mg base CX0 k f fd ps (spB sp)) : FnOk P w K mg base CX0 k f fd ps sp := by
  refine ⟨fun vs H Q E q => F.len vs H (bQ H Q) (bE H E) ⟨Q, E, rfl, rfl, q⟩, fun A outer s H args us vs Q E hr he hb hv hs => ?_⟩
  refine codeAny_mono (F.run A outer s H args us vs (bQ H Q) (bE H E) hr he hb hv ⟨Q, E, rfl, rfl, hs⟩) fun r s' hq => ?_
  cases r with
  | error e => exact hq
  | ok fl =>
    cases fl with
    | ret u => exact ce_back hq
    | next => exact hq
    | brk => exact hq
    | cont => exact hq
end
/-- a def that raises nothing, by its body; the heap behind it cut back -/
theorem ok0 {P : Program} {w : World} {K : PySem.W.Frag} {mg : Str → Option Value} {base : Heap} {x qual : Str} {st : Stmt} {f : Addr} {fd : FuncData} {N ps : List Str} {k : Nat} {sp : Sp} (F : Fun K x qual st f fd) (S : FnScope N ps (defScope st)) (len : ∀ vs H Q E, sp vs H Q E → vs.length = ps.length)
    (hbody : ∀ (cdv : Value) (A : Around) (outer : List Env) (s : Shared) (H : Hp) (vs : List V) (Q : VK) (E : XK), Room k (A.deeper (envOfC qual (defScope st) s.heap.objs.size f cdv)) → sp vs H Q E →
      ∃ t, PSs (cxOf CX0 P w K mg base N qual (defScope st) f cdv A outer s H E).nox (defBody st) t ∧ t { nx := fun _ H' => bQ H Q .non H', rt := bQ H Q } (start N vs) H) : FnOk P w K mg base CX0 (k + 1) f fd ps sp := by
  refine fn_back (F.ok S (fun vs H Q E h => ?_) fun cdv A outer s H vs Q' E' hr h => ?_)
  · obtain ⟨Q, E, _, _, q⟩ := h
    exact len vs H Q E q
  · obtain ⟨Q, E, rfl, rfl, q⟩ := h
    exact hbody cdv A outer s H vs Q E hr q
/-- .. that may raise -/
theorem okX {P : Program} {w : World} {K : PySem.W.Frag} {mg : Str → Option Value} {base : Heap} {x qual : Str} {st : Stmt} {f : Addr} {fd : FuncData} {N ps : List Str} {k : Nat} {sp : Sp} (F : Fun K x qual st f fd) (S : FnScope N ps (defScope st)) (len : ∀ vs H Q E, sp vs H Q E → vs.length = ps.length)
    (hbody : ∀ (cdv : Value) (A : Around) (outer : List Env) (s : Shared) (H : Hp) (vs : List V) (Q : VK) (E : XK), Room k (A.deeper (envOfC qual (defScope st) s.heap.objs.size f cdv)) → sp vs H Q E →
      ∃ t, PSs (cxOf (L2.CX P w) P w K mg base N qual (defScope st) f cdv A outer s H (bE H E)) (defBody st) t ∧ t { nx := fun _ H' => bQ H Q .non H', rt := bQ H Q } (start N vs) H) : FnOk P w K mg base (L2.CX P w) (k + 1) f fd ps sp := by
  refine fn_backX (F.okX S (fun vs H Q E h => ?_) fun cdv A outer s H vs Q' E' hr h => ?_)
  · obtain ⟨Q, E, _, _, q⟩ := h
    exact len vs H Q E q
  · obtain ⟨Q, E, rfl, rfl, q⟩ := h
    exact hbody cdv A outer s H vs Q E hr q
section
variable {X : Cx}
/-- the heap behind an expression, a block, cut back -/
def tBack (t : TE) : TE := fun σ H Q => t σ H (bQ H Q)
theorem inv_back {pins : List (Addr × Obj)} {σ : L2.St} {σ0 : L2.St} {H H2 H' : Hp} {s s0 : Shared} (I0 : Inv X pins σ0 H s0) (b : Back H H2 H') (I : Inv X pins σ H' s) : Inv X pins σ H2 s := by
  have fr : ∀ c, H' c = none → H2 c = none := fun c z => by
    cases e : H2 c with
    | none => rfl
    | some x =>
      have y := b.sub c x e
      rw [z] at y
      cases y
  refine ⟨I.ok, I.os, I.bare, b.un (fun a o e => ⟨fun xs r => ?_, fun z y r => ?_, fun ps r => ?_⟩) I.base, I.loc, I.cell, fr _ I.free, fun x c e => fr _ (I.freeC x c e), fun p hp => ?_, b.hok I.hok, I.len⟩
  · subst r
    exact I0.base.tups a xs e
  · subst r
    exact I0.base.frzs a z y e
  · subst r
    obtain ⟨m, h⟩ := I0.base.tbls a ps e
    exact ⟨_, h⟩
  · obtain ⟨a1, a2, a3⟩ := I.pin p hp
    exact ⟨a1, fr _ a2, a3⟩
theorem pe_back {e : Expr} {t : TE} (h : PE X e t) : PE X e (tBack t) := by
  refine ⟨fun pins s σ H Q I q => ?_⟩
  refine thn (h.run pins s σ H _ I q) fun u s1 z => ?_
  obtain ⟨v, H1, I1, r1, H2, b, q2⟩ := z
  exact ⟨v, H2, inv_back I b I1, r1, q2⟩
def bD (H : Hp) (D : Ends) : Ends := { nx := fun σ H' => ∃ H2, Back H H2 H' ∧ D.nx σ H2, rt := bQ H D.rt, bk := fun σ H' => ∃ H2, Back H H2 H' ∧ D.bk σ H2, ct := fun σ H' => ∃ H2, Back H H2 H' ∧ D.ct σ H2 }
def sBack (t : TS) : TS := fun D σ H => t (bD H D) σ H
theorem sp_back {pins : List (Addr × Obj)} {σ : L2.St} {H : Hp} {D : Ends} {s s1 : Shared} {f : Flow} (I : Inv X pins σ H s) (z : SP X pins (bD H D) f s1) : SP X pins D f s1 := by
  cases f with
  | next =>
    obtain ⟨σ', H', I', H2, b, q⟩ := z
    exact ⟨σ', H2, inv_back I b I', q⟩
  | brk =>
    obtain ⟨σ', H', I', H2, b, q⟩ := z
    exact ⟨σ', H2, inv_back I b I', q⟩
  | cont =>
    obtain ⟨σ', H', I', H2, b, q⟩ := z
    exact ⟨σ', H2, inv_back I b I', q⟩
  | ret u =>
    obtain ⟨v, σ', H', I', r, H2, b, q⟩ := z
    exact ⟨v, σ', H2, inv_back I b I', r, q⟩
theorem pss_back {b : List Stmt} {t : TS} (h : PSs X b t) : PSs X b (sBack t) := ⟨fun pins s σ H D I q => thn (h.run pins s σ H _ I q) fun _ _ z => sp_back I z⟩
theorem ps_back {b : Stmt} {t : TS} (h : PS X b t) : PS X b (sBack t) := ⟨fun pins s σ H D I q => thn (h.run pins s σ H _ I q) fun _ _ z => sp_back I z⟩
end
end R
namespace R
open PySem PySem.Spec PyProof.Rows L2
/-! ### readings that reckon: what can be seen is done by whnf, what is left stands as a want -/
theorem imp_e {X : Cx} {e : Expr} {t t' : TE} (h : PE X e t) (i : ∀ σ H Q, t' σ H Q → t σ H Q) : PE X e t' := ⟨fun pins s σ H Q I q => h.run pins s σ H Q I (i σ H Q q)⟩
theorem imp_t {X : Cx} {e : Expr} {t t' : TT} (h : PT X e t) (i : ∀ σ H Q, t' σ H Q → t σ H Q) : PT X e t' := ⟨fun pins s σ H Q I q => h.run pins s σ H Q I (i σ H Q q)⟩
theorem imp_s {X : Cx} {e : Stmt} {t t' : TS} (h : PS X e t) (i : ∀ D σ H, t' D σ H → t D σ H) : PS X e t' := ⟨fun pins s σ H D I q => h.run pins s σ H D I (i D σ H q)⟩
theorem imp_o {X : Cx} {f : Value → Value → Sem Value} {r r' : R2} (h : OpR X f r) (i : ∀ x y H Q, r' x y H Q → r x y H Q) : OpR X f r' := fun pins s σ H x y v u Q I rx ry q => h pins s σ H x y v u Q I rx ry (i x y H Q q)
theorem imp_c {X : Cx} {f : Value} {r r' : List V → Hp → VK → Prop} (h : CallR X f r) (i : ∀ xs H Q, r' xs H Q → r xs H Q) : CallR X f r' := fun pins s σ H xs us Q I rx q => h pins s σ H xs us Q I rx (i xs H Q q)
theorem imp_g {X : Cx} {e : Expr} {t t' : TG} (h : PG X e t) (i : ∀ v σ H Q, t' v σ H Q → t v σ H Q) : PG X e t' := ⟨fun pins s σ H v u Q I r q => h.run pins s σ H v u Q I r (i v σ H Q q)⟩
/-- a name -/
def cVar (i : Nat) : TE := fun σ H Q => match σ[i]? with | some (some v) => Q v H | _ => False
theorem lv {X : Cx} (i : Nat) {x : Str} {pos : Pos} (hN : X.N[i]? = some x := by rfl) (hv : Vis X.env.scope x := by first | exact Or.inl rfl | exact Or.inr (Or.inl rfl) | exact Or.inr (Or.inr rfl)) (hd : (x == ("__debug__" : Str)) = false := by decide)
    (hcd : (x == ("__classdict__" : Str)) = false := by decide) : PE X (.Name x pos) (cVar i) := imp_e (pe_var hN hv hd hcd) fun σ H Q q => by
  unfold cVar at q
  split at q
  · rename_i v e
    exact ⟨v, e, q⟩
  · exact q.elim
/-- a name of the module's top -/
def GlV (mg : Str → Option Value) (x : Str) (v : V) : Prop := ∃ u, mg x = some u ∧ RelV v u
theorem pe_g {X : Cx} {x : Str} {v : V} {pos : Pos} (h : GlV X.mg x v) (hg : Gl X x := by rfl) (hd : (x == ("__debug__" : Str)) = false := by decide) : PE X (.Name x pos) (tC v) := by
  obtain ⟨u, h1, h2⟩ := h
  exact pe_glob hg h1 h2 hd
/-- tests -/
def cTest (t : TE) : TT := fun σ H Q => t σ H fun x H' => match x with | .bl k => Q k H' | _ => False
section
variable {X : Cx} {a b c e : Expr} {ta tb tc te : TE} {tt : TT} {rest : List Expr} {pos : Pos}
theorem imp_Q {X : Cx} {e : Expr} {t : TE} {R R' : V → Hp → Prop} : True := trivial
end
/-- a reading that may be weakened at its end -/
def Mono (t : TE) : Prop := ∀ σ H (Q Q' : VK), (∀ v H', Q v H' → Q' v H') → t σ H Q → t σ H Q'
theorem run_mono {X : Cx} {e : Expr} {t : TE} (h : PE X e t) {t' : TE} (i : ∀ σ H Q, t' σ H Q → ∃ Q0 : VK, (∀ v H', Q0 v H' → Q v H') ∧ t σ H Q0) : PE X e t' := ⟨fun pins s σ H Q I q => by
  obtain ⟨Q0, w, z⟩ := i σ H Q q
  exact thn (h.run pins s σ H Q0 I z) fun u s1 ⟨v, H1, I1, r, q1⟩ => ⟨v, H1, I1, r, w v H1 q1⟩⟩
theorem run_monoT {X : Cx} {e : Expr} {t : TT} (h : PT X e t) {t' : TT} (i : ∀ σ H Q, t' σ H Q → ∃ Q0 : Bool → Hp → Prop, (∀ v H', Q0 v H' → Q v H') ∧ t σ H Q0) : PT X e t' := ⟨fun pins s σ H Q I q => by
  obtain ⟨Q0, w, z⟩ := i σ H Q q
  exact thn (h.run pins s σ H Q0 I z) fun u s1 ⟨H1, I1, q1⟩ => ⟨H1, I1, w u H1 q1⟩⟩
section
variable {X : Cx} {a b c e : Expr} {ta tb tc te : TE} {tt : TT} {rest : List Expr} {pos : Pos}
theorem testM {Q : Bool → Hp → Prop} : ∀ (v : V) (H' : Hp), (match v with | .bl k => Q k H' | _ => False) → ∃ k, v = .bl k ∧ Q k H'
  | .bl k, _, q => ⟨k, rfl, q⟩
  | .non, _, q => q.elim
  | .int _, _, q => q.elim
  | .str _, _, q => q.elim
  | .byt _, _, q => q.elim
  | .flt _, _, q => q.elim
  | .ref _, _, q => q.elim
  | .ty _, _, q => q.elim
/-- an expression that gives a bool, as a test -/
theorem pt_cmpU {op : CmpOp} {r : R2} (ho : OpR X (compareOp op) r) (ha : PE X a ta) (hb : PE X b tb) (hm : behindInMarks op b = false) : PT X (.Compare a [op] [b] pos) (cTest (tOp r ta tb)) := by
  refine ⟨fun pins s σ H Q I q => ?_⟩
  have ho' : OpR X (compareOp op) (fun x y H Q => ∃ Q0 : VK, (∀ v H', Q0 v H' → Q v H') ∧ r x y H Q0) := by
    intro pins s σ H x y v u Q I rx ry h
    obtain ⟨Q0, w, z⟩ := h
    exact thn (ho pins s σ H x y v u Q0 I rx ry z) fun u s1 ⟨v, H1, I1, r, q1⟩ => ⟨v, H1, I1, r, w v H1 q1⟩
  have ha' : PE X a (fun σ H Q => ∃ Q0 : VK, (∀ v H', Q0 v H' → Q v H') ∧ ta σ H Q0) := run_mono ha fun _ _ _ z => z
  have hb' : PE X b (fun σ H Q => ∃ Q0 : VK, (∀ v H', Q0 v H' → Q v H') ∧ tb σ H Q0) := run_mono hb fun _ _ _ z => z
  refine (pt_cmpR ho' ha' hb' hm).run pins s σ H Q I ?_
  exact ⟨_, fun x H1 z => ⟨_, fun y H2 z2 => ⟨_, fun v H3 z3 => testM v H3 z3, z2⟩, z⟩, q⟩
def cChain (r r' : R2) (ta tb tc : TE) : TE := fun σ H Q => ta σ H fun x H1 => tb σ H1 fun y H2 => r x y H2 fun z H3 => match z with
  | .bl k => if k = true then tc σ H3 fun w' H4 => r' y w' H4 Q else Q (.bl false) H3
  | _ => False
theorem chM {A : Bool → Hp → Prop} : ∀ (v : V) (H' : Hp), (match v with | .bl k => A k H' | _ => False) → ∃ k, v = .bl k ∧ A k H' := fun v H' q => testM v H' q
theorem mono_o {f : Value → Value → Sem Value} {r : R2} (ho : OpR X f r) : OpR X f (fun x y H Q => ∃ Q0 : VK, (∀ v H', Q0 v H' → Q v H') ∧ r x y H Q0) := by
  intro pins s σ H x y v u Q I rx ry h
  obtain ⟨Q0, w, z⟩ := h
  exact thn (ho pins s σ H x y v u Q0 I rx ry z) fun u s1 ⟨v, H1, I1, r, q1⟩ => ⟨v, H1, I1, r, w v H1 q1⟩
theorem mono_e {e : Expr} {t : TE} (h : PE X e t) : PE X e (fun σ H Q => ∃ Q0 : VK, (∀ v H', Q0 v H' → Q v H') ∧ t σ H Q0) := run_mono h fun _ _ _ z => z
theorem mono_t {e : Expr} {t : TT} (h : PT X e t) : PT X e (fun σ H Q => ∃ Q0 : Bool → Hp → Prop, (∀ v H', Q0 v H' → Q v H') ∧ t σ H Q0) := run_monoT h fun _ _ _ z => z
theorem pe_chainU {op op' : CmpOp} {r r' : R2} (ho : OpR X (compareOp op) r) (ho' : OpR X (compareOp op') r') (ha : PE X a ta) (hb : PE X b tb) (hc : PE X c tc)
    (hm : lastMarks [op, op'] [b, c] = false := by with_unfolding_all rfl) : PE X (.Compare a [op, op'] [b, c] pos) (cChain r r' ta tb tc) :=
  imp_e (pe_chain (mono_o ho) ho' (mono_e ha) (mono_e hb) hc hm) fun σ H Q q => ⟨_, fun x H1 z => ⟨_, fun y H2 z2 => ⟨_, fun v H3 z3 => testM (Q := fun k H3 => if k = true then tc σ H3 fun w' H4 => r' y w' H4 Q else Q (.bl false) H3) v H3 z3, z2⟩, z⟩, q⟩
theorem pt_chainU {op op' : CmpOp} {r r' : R2} (ho : OpR X (compareOp op) r) (ho' : OpR X (compareOp op') r') (ha : PE X a ta) (hb : PE X b tb) (hc : PE X c tc)
    (hm : lastMarks [op, op'] [b, c] = false := by with_unfolding_all rfl) : PT X (.Compare a [op, op'] [b, c] pos) (cTest (cChain r r' ta tb tc)) := by
  refine imp_t (pt_chain (mono_o ho) (mono_o ho') (mono_e ha) (mono_e hb) (mono_e hc) hm) fun σ H Q q => ?_
  refine ⟨_, fun x H1 z => ⟨_, fun y H2 z2 => ⟨_, fun v H3 z3 => ?_, z2⟩, z⟩, q⟩
  obtain ⟨k, e, z4⟩ := testM (Q := fun k H3 => if k = true then tc σ H3 fun w' H4 => r' y w' H4 _ else _) v H3 z3
  refine ⟨k, e, ?_⟩
  cases k with
  | true =>
    rw [if_pos rfl] at z4 ⊢
    exact ⟨_, fun w' H4 z5 => ⟨_, fun v H5 z6 => testM v H5 z6, z5⟩, z4⟩
  | false =>
    rw [if_neg Bool.false_ne_true] at z4 ⊢
    exact ⟨false, rfl, z4⟩
/-- a value's truth -/
def cTru (K : PySem.W.Frag) (x : V) (H : Hp) (Q : Bool → Hp → Prop) : Prop := match x with
  | .non => Q false H
  | .bl b => Q b H
  | .int i => Q (i != 0) H
  | .str y => y.length ≤ sizeLine ∧ Q ((y.length : Int) != 0) H
  | .ref p => ∃ k, TruV K (.ref p) H k ∧ Q k H
  | _ => False
theorem cTru.ex {K : PySem.W.Frag} {x : V} {H : Hp} {Q : Bool → Hp → Prop} (h : cTru K x H Q) : ∃ k, TruV K x H k ∧ Q k H := by
  cases x with
  | non => exact ⟨false, rfl, h⟩
  | bl b => exact ⟨b, rfl, h⟩
  | int i => exact ⟨_, rfl, h⟩
  | str y => exact ⟨_, ⟨h.1, rfl⟩, h.2⟩
  | ref p => exact h
  | byt _ => exact h.elim
  | flt _ => exact h.elim
  | ty _ => exact h.elim
def cAnd (K : PySem.W.Frag) (ta tb : TE) : TE := fun σ H Q => ta σ H fun x H1 => cTru K x H1 fun k H1 => if k = true then tb σ H1 Q else Q x H1
def cOr (K : PySem.W.Frag) (ta tb : TE) : TE := fun σ H Q => ta σ H fun x H1 => cTru K x H1 fun k H1 => if k = true then Q x H1 else tb σ H1 Q
def cNot (K : PySem.W.Frag) (ta : TE) : TE := fun σ H Q => ta σ H fun x H1 => cTru K x H1 fun k H1 => Q (.bl (!k)) H1
def cTruth (K : PySem.W.Frag) (ta : TE) : TT := fun σ H Q => ta σ H fun x H1 => cTru K x H1 Q
theorem cTru.at {K : PySem.W.Frag} {x : V} {H : Hp} {Q : Bool → Hp → Prop} (h : cTru K x H Q) : ∃ k, TruV K x H k ∧ Q k H := h.ex
theorem pe_andU {K : PySem.W.Frag} (ha : PE X a ta) (hb : PE X (.BoolOp .And (b :: rest) pos) tb) (hK : X.K = K := by rfl) : PE X (.BoolOp .And (a :: b :: rest) pos) (cAnd K ta tb) :=
  hK ▸ imp_e (pe_andT (mono_e ha) hb) fun σ H Q q => ⟨_, fun x H1 z => (cTru.at z : ∃ k, TruV X.K x H1 k ∧ if k = true then tb σ H1 Q else Q x H1), q⟩
theorem pe_orU {K : PySem.W.Frag} (ha : PE X a ta) (hb : PE X (.BoolOp .Or (b :: rest) pos) tb) (hK : X.K = K := by rfl) : PE X (.BoolOp .Or (a :: b :: rest) pos) (cOr K ta tb) :=
  hK ▸ imp_e (pe_orT (mono_e ha) hb) fun σ H Q q => ⟨_, fun x H1 z => (cTru.at z : ∃ k, TruV X.K x H1 k ∧ if k = true then Q x H1 else tb σ H1 Q), q⟩
theorem pe_notU {K : PySem.W.Frag} (ha : PE X a ta) (hK : X.K = K := by rfl) : PE X (.UnaryOp .Not a pos) (cNot K ta) :=
  hK ▸ imp_e (pe_notT (mono_e ha)) fun σ H Q q => ⟨_, fun x H1 z => (cTru.at z : ∃ k, TruV X.K x H1 k ∧ Q (.bl (!k)) H1), q⟩
theorem pt_truthU {K : PySem.W.Frag} (ha : PE X a ta) (he : ∀ whole, isTrue a X.env whole = (do let v ← whole; standAt a.pos; holding [v] (truthy v))) (hK : X.K = K := by rfl) : PT X a (cTruth K ta) :=
  hK ▸ imp_t (pt_truth (mono_e ha) he) fun σ H Q q => ⟨_, fun x H1 z => (cTru.at z : ∃ k, TruV X.K x H1 k ∧ Q k H1), q⟩
end
/-! ### operators -/
section
variable {X : Cx}
def rAddU (K : PySem.W.Frag) : R2 := fun x y H Q => match x, y with
  | .int i, .int j => Q (.int (i + j)) H
  | .str a, .str b => a.length + b.length ≤ sizeLine ∧ Q (.str (a ++ b)) H
  | .ref a, .ref b => rCat (.ref a) (.ref b) H Q ∨ rCatT K (.ref a) (.ref b) H Q
  | _, _ => False
theorem opU_add {K : PySem.W.Frag} (hK : X.K = K := by rfl) : OpR X (binaryOp .Add) (rAddU K) := hK ▸ imp_o (op_add.or (op_add_str.or (op_cat.or op_catT))) fun x y H Q q => by
  unfold rAddU at q
  split at q
  · exact .inl ⟨_, _, rfl, rfl, q⟩
  · exact .inr (.inl ⟨_, _, rfl, rfl, q.1, q.2⟩)
  · exact .inr (.inr q)
  · exact q.elim
def rSubU : R2 := fun x y H Q => match x, y with
  | .int i, .int j => Q (.int (i - j)) H
  | _, _ => False
theorem opU_sub : OpR X (binaryOp .Sub) rSubU := imp_o op_sub fun x y H Q q => by
  unfold rSubU at q
  split at q
  · exact ⟨_, _, rfl, rfl, q⟩
  · exact q.elim
def rMulU : R2 := fun x y H Q => match x, y with
  | .int i, .int j => (CMul i j ∨ CMulW i j) ∧ Q (.int (i * j)) H
  | .ref a, .int k => rRep (.ref a) (.int k) H Q
  | _, _ => False
theorem opU_mul : OpR X (binaryOp .Mult) rMulU := imp_o (op_mul.or (op_mulW.or op_rep)) fun x y H Q q => by
  unfold rMulU at q
  split at q
  · rcases q.1 with c | c
    · exact .inl ⟨_, _, rfl, rfl, c, q.2⟩
    · exact .inr (.inl ⟨_, _, rfl, rfl, c, q.2⟩)
  · exact .inr (.inr q)
  · exact q.elim
def rModU : R2 := fun x y H Q => match x, y with
  | .int i, .int j => 0 < j ∧ Q (.int (i % j)) H
  | _, _ => False
theorem opU_mod : OpR X (binaryOp .Mod) rModU := imp_o op_mod fun x y H Q q => by
  unfold rModU at q
  split at q
  · exact ⟨_, _, rfl, rfl, q.1, q.2⟩
  · exact q.elim
def rDivU : R2 := fun x y H Q => match x, y with
  | .int i, .int j => CDivW i j ∧ Q (.int (i / j)) H
  | _, _ => False
theorem opU_div : OpR X (binaryOp .FloorDiv) rDivU := imp_o op_fdivW fun x y H Q q => by
  unfold rDivU at q
  split at q
  · exact ⟨_, _, rfl, rfl, q.1, q.2⟩
  · exact q.elim
def rPowU : R2 := fun x y H Q => match x, y with
  | .int i, .int j => CPow i j ∧ Q (.int (i ^ j.toNat)) H
  | _, _ => False
theorem opU_pow : OpR X (binaryOp .Pow) rPowU := imp_o op_pow fun x y H Q q => by
  unfold rPowU at q
  split at q
  · exact ⟨_, _, rfl, rfl, q.1, q.2⟩
  · exact q.elim
def rNegU : V → Hp → VK → Prop := fun x H Q => match x with
  | .int i => Q (.int (-i)) H
  | _ => False
theorem unU_neg : UnR X (unaryOp .USub) rNegU := fun pins s σ H x v Q I rx q => un_neg pins s σ H x v Q I rx (by
  unfold rNegU at q
  split at q
  · exact ⟨_, rfl, q⟩
  · exact q.elim)
/-- order -/
def rOrd (f : Int → Int → Bool) (g : List Nat → List Nat → Bool) : R2 := fun x y H Q => match x, y with
  | .int i, .int j => Q (.bl (f i j)) H
  | .str a, .str b => Q (.bl (g a.cps.toList b.cps.toList)) H
  | _, _ => False
theorem opU_lt : OpR X (compareOp .Lt) (rOrd (fun i j => decide (i < j)) fun a b => decide (a < b)) := imp_o (op_lt.or op_lt_str) fun x y H Q q => by
  unfold rOrd at q
  split at q
  · exact .inl ⟨_, _, rfl, rfl, q⟩
  · exact .inr ⟨_, _, rfl, rfl, q⟩
  · exact q.elim
def rLeU : R2 := fun x y H Q => match x, y with
  | .int i, .int j => Q (.bl (decide (i ≤ j))) H
  | .str a, .str b => Q (.bl (!decide (b.cps.toList < a.cps.toList))) H
  | _, _ => False
theorem opU_le : OpR X (compareOp .LtE) rLeU := imp_o (op_le.or op_le_str) fun x y H Q q => by
  unfold rLeU at q
  split at q
  · exact .inl ⟨_, _, rfl, rfl, q⟩
  · exact .inr ⟨_, _, rfl, rfl, q⟩
  · exact q.elim
def rGtU : R2 := fun x y H Q => match x, y with
  | .int i, .int j => Q (.bl (decide (j < i))) H
  | _, _ => False
theorem opU_gt : OpR X (compareOp .Gt) rGtU := imp_o op_gt fun x y H Q q => by
  unfold rGtU at q
  split at q
  · exact ⟨_, _, rfl, rfl, q⟩
  · exact q.elim
def rGeU : R2 := fun x y H Q => match x, y with
  | .int i, .int j => Q (.bl (decide (j ≤ i))) H
  | _, _ => False
theorem opU_ge : OpR X (compareOp .GtE) rGeU := imp_o op_ge fun x y H Q q => by
  unfold rGeU at q
  split at q
  · exact ⟨_, _, rfl, rfl, q⟩
  · exact q.elim
/-- == -/
def rEqU (K : PySem.W.Frag) : R2 := fun x y H Q => match scal x y with | true => Q (.bl (decide (x = y))) H | false => rEqD K x y H Q
def rNeU (K : PySem.W.Frag) : R2 := fun x y H Q => match scal x y with | true => Q (.bl (!decide (x = y))) H | false => rNeD K x y H Q
theorem roomU {k : Nat} {A : Around} (r : Room k A) : A.units + 64 < cLine := by have := r.un; omega
theorem opU_eq {K : PySem.W.Frag} {k : Nat} (r : Room k X.A) (hK : X.K = K := by rfl) : OpR X (compareOp .Eq) (rEqU K) := hK ▸ imp_o (op_eq.or (op_eqD (roomU r))) fun x y H Q q => by
  unfold rEqU at q
  split at q
  · rename_i e
    exact .inl ⟨e, q⟩
  · exact .inr q
theorem opU_ne {K : PySem.W.Frag} {k : Nat} (r : Room k X.A) (hK : X.K = K := by rfl) : OpR X (compareOp .NotEq) (rNeU K) := hK ▸ imp_o (op_ne.or (op_neD (roomU r))) fun x y H Q q => by
  unfold rNeU at q
  split at q
  · rename_i e
    exact .inl ⟨e, q⟩
  · exact .inr q
def rIsU (n : Bool) : R2 := fun x y H Q => match y with
  | .non => Q (.bl (n != decide (x = .non))) H
  | .bl b => (match x with | .bl a => Q (.bl (n != decide (a = b))) H | _ => False)
  | _ => False
theorem opU_is : OpR X (compareOp .Is) (rIsU false) := imp_o (op_isN.or op_isBl) fun x y H Q q => by
  unfold rIsU at q
  split at q
  · exact .inl ⟨rfl, by simpa using q⟩
  · split at q
    · exact .inr ⟨_, _, rfl, rfl, by simpa using q⟩
    · exact q.elim
  · exact q.elim
theorem opU_isnot : OpR X (compareOp .IsNot) (rIsU true) := imp_o (op_notN.or op_notBl) fun x y H Q q => by
  unfold rIsU at q
  split at q
  · exact .inl ⟨rfl, by simpa using q⟩
  · split at q
    · exact .inr ⟨_, _, rfl, rfl, by simpa using q⟩
    · exact q.elim
  · exact q.elim
/-- in -/
def rInU (K : PySem.W.Frag) (n : Bool) : R2 := fun x y H Q => match y with
  | .str z => (match x with
    | .str s => ∃ c, s = ⟨#[c]⟩ ∧ (match n with | true => Q (.bl (!decide (c ∈ z.cps.toList))) H | false => Q (.bl (decide (c ∈ z.cps.toList))) H)
    | _ => False)
  | .ref p => ∃ xs, (SqL K H p xs ∨ SqT K H p xs) ∧ flatV x = true ∧ xs.all flatV = true ∧ (match n with | true => Q (.bl (!inV x xs)) H | false => Q (.bl (inV x xs)) H)
  | _ => False
theorem opU_in {K : PySem.W.Frag} (hK : X.K = K := by rfl) : OpR X (compareOp .In) (rInU K false) := hK ▸ imp_o (op_in_sign.or op_in_seq) fun x y H Q q => by
  unfold rInU at q
  split at q
  · split at q
    · obtain ⟨c, rfl, q⟩ := q
      exact .inl ⟨c, _, rfl, rfl, q⟩
    · exact q.elim
  · obtain ⟨xs, h1, h2, h3, q⟩ := q
    exact .inr ⟨_, xs, rfl, h1, h2, h3, q⟩
  · exact q.elim
theorem opU_notin {K : PySem.W.Frag} (hK : X.K = K := by rfl) : OpR X (compareOp .NotIn) (rInU K true) := hK ▸ imp_o (op_notIn_sign.or op_notIn_seq) fun x y H Q q => by
  unfold rInU at q
  split at q
  · split at q
    · obtain ⟨c, rfl, q⟩ := q
      exact .inl ⟨c, _, rfl, rfl, q⟩
    · exact q.elim
  · obtain ⟨xs, h1, h2, h3, q⟩ := q
    exact .inr ⟨_, xs, rfl, h1, h2, h3, q⟩
  · exact q.elim
/-- x[i] -/
def rIxU (K : PySem.W.Frag) : R2 := fun x y H Q => match x, y with
  | .str z, .int i => z.length ≤ sizeLine ∧ ∃ c, atI z.cps.toList i = some c ∧ Q (.str ⟨#[c]⟩) H
  | .ref p, .int i => ∃ xs v, (SqL K H p xs ∨ SqT K H p xs) ∧ atI xs i = some v ∧ Q v H
  | _, _ => False
theorem ixU {K : PySem.W.Frag} (hK : X.K = K := by rfl) : IxR X (rIxU K) := by
  subst hK
  intro value slice pins s σ H x y v u Q I rx ry q hs
  refine ix_seq value slice pins s σ H x y v u Q I rx ry ?_ hs
  unfold rIxU at q
  split at q
  · obtain ⟨h1, c, h2, q⟩ := q
    exact .inr (.inr ⟨_, _, c, rfl, rfl, h1, h2, q⟩)
  · obtain ⟨xs, w, h1 | h1, h2, q⟩ := q
    · exact .inl ⟨_, xs, _, w, rfl, rfl, h1, h2, q⟩
    · exact .inr (.inl ⟨_, xs, _, w, rfl, rfl, h1, h2, q⟩)
  · exact q.elim
/-- x[i:j] -/
def rSlU (K : PySem.W.Frag) : V → Option Int → Option Int → Hp → VK → Prop := fun x lo hi H Q => match x with
  | .str z => z.length ≤ sizeLine ∧ Q (.str (cutS z lo hi)) H
  | .ref p => rSlL K (.ref p) lo hi H Q ∨ rSlT K (.ref p) lo hi H Q
  | _ => False
theorem slU {K : PySem.W.Frag} (hK : X.K = K := by rfl) : SlR X (rSlU K) := by
  subst hK
  intro pins s σ H x v vl vu lo hi sl Q I rx hs pl pu q
  refine (sl_str.or (sl_list.or sl_tup)) pins s σ H x v vl vu lo hi sl Q I rx hs pl pu ?_
  unfold rSlU at q
  split at q
  · exact .inl ⟨_, rfl, q.1, q.2⟩
  · exact .inr q
  · exact q.elim
def cPart (t : TE) : TO := fun σ H Q => t σ H fun x H1 => match x with | .int i => Q (some i) H1 | _ => False
theorem imp_po {e : Option Expr} {t t' : TO} (h : PO X e t) (i : ∀ σ H Q, t' σ H Q → t σ H Q) : PO X e t' := ⟨fun pins s σ H Q I q => h.run pins s σ H Q I (i σ H Q q)⟩
theorem po_someU {e : Expr} {t : TE} (h : PE X e t) : PO X (some e) (cPart t) := imp_po (po_some (mono_e h)) fun σ H Q q => ⟨_, fun x H1 z => by
  revert z
  cases x <;> intro z <;> first | exact ⟨_, rfl, z⟩ | exact z.elim, q⟩
/-! ### built-ins -/
def rLenU (K : PySem.W.Frag) : List V → Hp → VK → Prop := fun xs H Q => match xs with
  | [.str z] => z.length ≤ sizeLine ∧ Q (.int z.length) H
  | [.ref p] => (∃ ys, (SqL K H p ys ∨ SqT K H p ys) ∧ Q (.int ys.length) H) ∨ ∃ kvs, H p = some (.dK kvs) ∧ Q (.int kvs.length) H
  | _ => False
theorem callU_len {K : PySem.W.Frag} (hK : X.K = K := by rfl) : CallR X (.builtin "len") (rLenU K) := hK ▸ imp_c (call_len_str.or (call_len_seq.or call_lenD)) fun xs H Q q => by
  unfold rLenU at q
  split at q
  · exact .inl ⟨_, rfl, q.1, q.2⟩
  · rcases q with ⟨ys, h, q⟩ | ⟨kvs, h, q⟩
    · exact .inr (.inl ⟨_, ys, rfl, h, q⟩)
    · exact .inr (.inr ⟨_, kvs, rfl, h, q⟩)
  · exact q.elim
/-- isinstance of a value whose type is known -/
def IsiV (K : PySem.W.Frag) (H : Hp) (x : V) (n : String) (b : Bool) : Prop := ∃ t, TyX K H x t ∧ PySem.W.kitOne K t (.type n) = some b
def rIsiU (K : PySem.W.Frag) : List V → Hp → VK → Prop := fun xs H Q => match xs with
  | [x, .ty n] => ∃ b, IsiV K H x n b ∧ Q (.bl b) H
  | [x, .ref c] => rIsi K [x, .ref c] H Q ∨ rIsiT K [x, .ref c] H Q
  | _ => False
theorem callU_isi {K : PySem.W.Frag} (hK : X.K = K := by rfl) : CallR X (.builtin "isinstance") (rIsiU K) := hK ▸ imp_c (call_isi.or call_isiT) fun xs H Q q => by
  unfold rIsiU at q
  split at q
  · obtain ⟨b, ⟨t, h1, h2⟩, q⟩ := q
    exact .inl ⟨_, _, t, _, b, rfl, .ty _, h1, h2, q⟩
  · exact q
  · exact q.elim
def rIntU : List V → Hp → VK → Prop := fun xs H Q => match xs with
  | [.int i] => Q (.int i) H
  | [.bl k] => Q (.int (if k then 1 else 0)) H
  | [.str a] => ∃ n, PySem.intText? a = some n ∧ a.length ≤ 640 ∧ Q (.int n) H
  | _ => False
theorem callU_int : CallR X (.type "int") rIntU := imp_c (call_int1.or call_int_str) fun xs H Q q => by
  unfold rIntU at q
  split at q
  · exact .inl (.inl ⟨_, rfl, q⟩)
  · exact .inl (.inr ⟨_, rfl, q⟩)
  · obtain ⟨n, h1, h2, q⟩ := q
    exact .inr ⟨_, n, rfl, h1, h2, q⟩
  · exact q.elim
def rStrU : List V → Hp → VK → Prop := fun xs H Q => match xs with
  | [.int i] => i.natAbs.log2 < 1920 ∧ Q (.str (toString i)) H
  | _ => False
theorem callU_str : CallR X (.type "str") rStrU := imp_c call_str_int fun xs H Q q => by
  unfold rStrU at q
  split at q
  · exact ⟨_, rfl, q.1, q.2⟩
  · exact q.elim
def rListU (K : PySem.W.Frag) : List V → Hp → VK → Prop := fun xs H Q => match xs with
  | [.ref p] => (∃ ys, (SqL K H p ys ∨ SqT K H p ys) ∧ ∀ l, H l = none → Q (.ref l) (upd H l (.lst ys))) ∨ ∃ kvs : List (Key × V), H p = some (.dK kvs) ∧ ∀ q, H q = none → Q (.ref q) (upd H q (.lst (kvs.map fun kv => kV kv.1)))
  | _ => False
theorem callU_list {K : PySem.W.Frag} (hc : X.calm = true) (hK : X.K = K := by rfl) : CallR X (.type "list") (rListU K) := hK ▸ imp_c (call_list_of.or (call_list_dK hc)) fun xs H Q q => by
  unfold rListU at q
  split at q
  · rcases q with ⟨ys, h, q⟩ | ⟨kvs, h, q⟩
    · exact .inl ⟨_, ys, rfl, h, q⟩
    · exact .inr ⟨_, kvs, rfl, h, q⟩
  · exact q.elim
def rTupU (K : PySem.W.Frag) : List V → Hp → VK → Prop := fun xs H Q => match xs with
  | [.ref p] => ∃ ys, (SqL K H p ys ∧ ∀ l, H l = none → Q (.ref l) (upd H l (.tup ys))) ∨ (SqT K H p ys ∧ Q (.ref p) H)
  | _ => False
theorem callU_tuple {K : PySem.W.Frag} (hK : X.K = K := by rfl) : CallR X (.type "tuple") (rTupU K) := hK ▸ imp_c call_tuple_of fun xs H Q q => by
  unfold rTupU at q
  split at q
  · obtain ⟨ys, q⟩ := q
    exact ⟨_, ys, rfl, q⟩
  · exact q.elim
def rMin2U : List V → Hp → VK → Prop := fun xs H Q => match xs with
  | [.int i, .int j] => Q (.int (if j < i then j else i)) H
  | _ => False
def rMax2U : List V → Hp → VK → Prop := fun xs H Q => match xs with
  | [.int i, .int j] => Q (.int (if j > i then j else i)) H
  | _ => False
theorem callU_min2 (hc : X.calm = true) : CallR X (.builtin "min") rMin2U := imp_c (call_min2 hc) fun xs H Q q => by
  unfold rMin2U at q
  split at q
  · exact ⟨_, _, rfl, q⟩
  · exact q.elim
theorem callU_max2 (hc : X.calm = true) : CallR X (.builtin "max") rMax2U := imp_c (call_max2 hc) fun xs H Q q => by
  unfold rMax2U at q
  split at q
  · exact ⟨_, _, rfl, q⟩
  · exact q.elim
def rAllU (K : PySem.W.Frag) (f : List Bool → Bool) : List V → Hp → VK → Prop := fun xs H Q => match xs with
  | [.ref a] => ∃ bs : List Bool, SqL K H a (bs.map V.bl) ∧ Q (.bl (f bs)) H
  | _ => False
theorem callU_all {K : PySem.W.Frag} (hc : X.calm = true) (hK : X.K = K := by rfl) : CallR X (.builtin "all") (rAllU K fun bs => bs.all id) := hK ▸ imp_c (cr_all hc) fun xs H Q q => by
  unfold rAllU at q
  split at q
  · obtain ⟨bs, h, q⟩ := q
    exact ⟨_, bs, rfl, h, q⟩
  · exact q.elim
theorem callU_any {K : PySem.W.Frag} (hc : X.calm = true) (hK : X.K = K := by rfl) : CallR X (.builtin "any") (rAllU K fun bs => bs.any id) := hK ▸ imp_c (cr_any hc) fun xs H Q q => by
  unfold rAllU at q
  split at q
  · obtain ⟨bs, h, q⟩ := q
    exact ⟨_, bs, rfl, h, q⟩
  · exact q.elim
/-- xs[i] = v -/
def rSetU : V → V → V → Hp → (Hp → Prop) → Prop := fun o i v H Q => match o, i with
  | .ref p, .int k => ∃ xs j, H p = some (.lst xs) ∧ ixN xs.length k = some j ∧ Q (upd H p (.lst (xs.set j v)))
  | _, _ => False
theorem setU : PSet X rSetU := by
  intro pins s σ H o i v ov iv u Q I ro ri rv h
  refine set_list pins s σ H o i v ov iv u Q I ro ri rv ?_
  unfold rSetU at h
  split at h
  · obtain ⟨xs, j, h1, h2, q⟩ := h
    exact ⟨_, xs, _, j, rfl, rfl, h1, h2, q⟩
  · exact h.elim
end
/-! ### the rest with the written part told -/
section
variable {X : Cx} {K : PySem.W.Frag}
theorem pe_ty {x : Str} {pos : Pos} (n : String) (hm : X.mg x = none) (hv : bootBuiltins x = some (.type n) := by decide +kernel) (hg : Gl X x := by rfl) (hn : x ≠ "__name__" := by decide) (hd : (x == ("__debug__" : Str)) = false := by decide) : PE X (.Name x pos) (tC (.ty n)) :=
  pe_bltn hg hm hv rfl hn hd
theorem pi_listK {tg l : Expr} {tl : TE} (hl : PE X l tl) (hK : X.K = K := by rfl) : PI X tg l (iList K tl) := hK ▸ pi_list hl
theorem pi_tupK {tg l : Expr} {tl : TE} (hl : PE X l tl) (hK : X.K = K := by rfl) : PI X tg l (iTup K tl) := hK ▸ pi_tup hl
theorem pg_tupK {es : List Expr} {k : Nat} {t : TGs} {n : Nat} {pos : Pos} (hc : X.calm = true) (h : PGs X es t)
    (hn : (assignEach es X.env).length = n := by rfl) (hst : (assignEach es X.env).findIdx? (·.1) = none := by rfl) (hK : X.K = K := by rfl) : PG X (.Tuple es k pos) (gTup K n t) := hK ▸ pg_tup hc h hn hst
theorem pe_fldK {e : Expr} {f : Str} {ta : TE} {pos : Pos} (he : PE X e ta) (hb : attributeBase e f X.env (eval e X.env) = eval e X.env) (hK : X.K = K := by rfl) : PE X (.Attribute e f pos) (tFld K ta f) := hK ▸ pe_fld he hb
end
/-! ### defs -/
structure Ok (P : Program) (w : World) (K : PySem.W.Frag) (mg : Str → Option Value) (base : Heap) (k : Nat) (x : Str) (ps : List Str) (sp : Sp) : Prop where
  ex : ∃ f fd, mg x = some (.ref f) ∧ PySem.W.keepIn K (.ref f) = true ∧ Binds K fd ps [] ∧ FnOk P w K mg base (L2.CX P w) k f fd ps sp
structure FnAt (K : PySem.W.Frag) (mg : Str → Option Value) (x qual : Str) (st : Stmt) (ps : List Str) : Prop where
  ex : ∃ f fd, mg x = some (.ref f) ∧ Fun K x qual st f fd ∧ Binds K fd ps []
theorem okF {P : Program} {w : World} {K : PySem.W.Frag} {mg : Str → Option Value} {base : Heap} {x qual : Str} {st : Stmt} {N ps : List Str} {k : Nat} {sp : Sp} (F : FnAt K mg x qual st ps) (S : FnScope N ps (defScope st)) (len : ∀ vs H Q E, sp vs H Q E → vs.length = ps.length)
    (hbody : ∀ (f : Addr) (cdv : Value) (A : Around) (outer : List Env) (s : Shared) (H : Hp) (vs : List V) (Q : VK) (E : XK), Room k (A.deeper (envOfC qual (defScope st) s.heap.objs.size f cdv)) → sp vs H Q E →
      ∃ t, PSs (cxOf (L2.CX P w) P w K mg base N qual (defScope st) f cdv A outer s H (bE H E)) (defBody st) t ∧ t { nx := fun _ H' => bQ H Q .non H', rt := bQ H Q } (start N vs) H) : Ok P w K mg base (k + 1) x ps sp := by
  obtain ⟨f, fd, h1, h2, h3⟩ := F.ex
  exact ⟨f, fd, h1, h2.kp, h3, okX h2 S len (hbody f)⟩
section
variable {X : Cx} {k j : Nat} {x : Str} {ps : List Str} {sp : Sp} {E : XK} {p pos : Pos} {e : Expr} {es : List Expr} {t : TA}
def cCall (sp : Sp) (E : XK) (t : TA) : TE := fun σ H Q => t σ H fun vs H1 => sp vs H1 Q E
theorem pe_f (O : Ok X.prog X.w X.K X.mg X.base k x ps sp) (hr : Room k X.A) (hx : Passes (L2.CX X.prog X.w) X E) (ha : PA X (e :: es) t) (hg : Gl X x := by rfl)
    (hdb : (x == ("__debug__" : Str)) = false := by decide) (he : starEach (e :: es) X.env = (false, eval e X.env) :: starEach es X.env := by rfl) (hpl : (backTo pos (starEach es X.env)).any (·.1) = false := by rfl) :
    PE X (.Call (.Name x p) (e :: es) [] pos) (cCall sp E t) := by
  obtain ⟨f, fd, h1, h2, h3, F⟩ := O.ex
  have ha' : PA X (e :: es) (fun σ H Q => ∃ Q0 : List V → Hp → Prop, (∀ v H', Q0 v H' → Q v H') ∧ t σ H Q0) := ⟨fun pos pins s σ H Q I q => by
    obtain ⟨Q0, w, z⟩ := q
    exact thn (ha.run pos pins s σ H Q0 I z) fun u s1 ⟨v, H1, I1, r, q1⟩ => ⟨v, H1, I1, r, w v H1 q1⟩⟩
  refine imp_e (pe_call F hr hg h1 h2 h3 .nil hx ha' hdb he hpl) fun σ H Q q => ⟨_, fun vs H1 z => ?_, q⟩
  show sp (vs ++ []) H1 Q E
  rw [List.append_nil]
  exact z
theorem pe_f0 (O : Ok X.prog X.w X.K X.mg X.base k x ps sp) (hr : Room k X.A) (hx : Passes (L2.CX X.prog X.w) X E) (hg : Gl X x := by rfl)
    (hdb : (x == ("__debug__" : Str)) = false := by decide) : PE X (.Call (.Name x p) [] [] pos) (cCall sp E tNil) := by
  obtain ⟨f, fd, h1, h2, h3, F⟩ := O.ex
  exact imp_e (pe_call0 F hr hg h1 h2 h3 .nil hx hdb) fun σ H Q q => q
end
end R
namespace R
open PySem PySem.Spec PyProof.Rows L2
/-! ### arguments by their number -/
def arg1 (R : V → Prop) : List V → Prop | [a] => R a | _ => False
def arg2 (R : V → V → Prop) : List V → Prop | [a, b] => R a b | _ => False
def arg3 (R : V → V → V → Prop) : List V → Prop | [a, b, c] => R a b c | _ => False
def arg4 (R : V → V → V → V → Prop) : List V → Prop | [a, b, c, d] => R a b c d | _ => False
def arg5 (R : V → V → V → V → V → Prop) : List V → Prop | [a, b, c, d, e] => R a b c d e | _ => False
theorem arg1.ex {R : V → Prop} : ∀ {vs : List V}, arg1 R vs → ∃ a, vs = [a] ∧ R a
  | [a], h => ⟨a, rfl, h⟩
  | [], h => h.elim
  | _ :: _ :: _, h => h.elim
theorem arg2.ex {R : V → V → Prop} : ∀ {vs : List V}, arg2 R vs → ∃ a b, vs = [a, b] ∧ R a b
  | [a, b], h => ⟨a, b, rfl, h⟩
  | [], h => h.elim
  | [_], h => h.elim
  | _ :: _ :: _ :: _, h => h.elim
theorem arg3.ex {R : V → V → V → Prop} : ∀ {vs : List V}, arg3 R vs → ∃ a b c, vs = [a, b, c] ∧ R a b c
  | [a, b, c], h => ⟨a, b, c, rfl, h⟩
  | [], h => h.elim
  | [_], h => h.elim
  | [_, _], h => h.elim
  | _ :: _ :: _ :: _ :: _, h => h.elim
theorem arg4.ex {R : V → V → V → V → Prop} : ∀ {vs : List V}, arg4 R vs → ∃ a b c d, vs = [a, b, c, d] ∧ R a b c d
  | [a, b, c, d], h => ⟨a, b, c, d, rfl, h⟩
  | [], h => h.elim
  | [_], h => h.elim
  | [_, _], h => h.elim
  | [_, _, _], h => h.elim
  | _ :: _ :: _ :: _ :: _ :: _, h => h.elim
theorem arg5.ex {R : V → V → V → V → V → Prop} : ∀ {vs : List V}, arg5 R vs → ∃ a b c d e, vs = [a, b, c, d, e] ∧ R a b c d e
  | [a, b, c, d, e], h => ⟨a, b, c, d, e, rfl, h⟩
  | [], h => h.elim
  | [_], h => h.elim
  | [_, _], h => h.elim
  | [_, _, _], h => h.elim
  | [_, _, _, _], h => h.elim
  | _ :: _ :: _ :: _ :: _ :: _ :: _, h => h.elim
def arg6 (R : V → V → V → V → V → V →  Prop) : List V → Prop | [a, b, c, d, e, f] => R a b c d e f | _ => False
theorem arg6.ex {R : V → V → V → V → V → V →  Prop} : ∀ {vs : List V}, arg6 R vs → ∃ a b c d e f, vs = [a, b, c, d, e, f] ∧ R a b c d e f
  | [a, b, c, d, e, f], h => ⟨a, b, c, d, e, f, rfl, h⟩
  | [], h => h.elim
  | [_], h => h.elim
  | [_, _], h => h.elim
  | [_, _, _], h => h.elim
  | [_, _, _, _], h => h.elim
  | [_, _, _, _, _], h => h.elim
  | _ :: _ :: _ :: _ :: _ :: _ :: _ :: _, h => h.elim
def arg7 (R : V → V → V → V → V → V → V →  Prop) : List V → Prop | [a, b, c, d, e, f, g] => R a b c d e f g | _ => False
theorem arg7.ex {R : V → V → V → V → V → V → V →  Prop} : ∀ {vs : List V}, arg7 R vs → ∃ a b c d e f g, vs = [a, b, c, d, e, f, g] ∧ R a b c d e f g
  | [a, b, c, d, e, f, g], h => ⟨a, b, c, d, e, f, g, rfl, h⟩
  | [], h => h.elim
  | [_], h => h.elim
  | [_, _], h => h.elim
  | [_, _, _], h => h.elim
  | [_, _, _, _], h => h.elim
  | [_, _, _, _, _], h => h.elim
  | [_, _, _, _, _, _], h => h.elim
  | _ :: _ :: _ :: _ :: _ :: _ :: _ :: _ :: _, h => h.elim
def arg8 (R : V → V → V → V → V → V → V → V →  Prop) : List V → Prop | [a, b, c, d, e, f, g, h] => R a b c d e f g h | _ => False
theorem arg8.ex {R : V → V → V → V → V → V → V → V →  Prop} : ∀ {vs : List V}, arg8 R vs → ∃ a b c d e f g h, vs = [a, b, c, d, e, f, g, h] ∧ R a b c d e f g h
  | [a, b, c, d, e, f, g, h], hyp => ⟨a, b, c, d, e, f, g, h, rfl, hyp⟩
  | [], h => h.elim
  | [_], h => h.elim
  | [_, _], h => h.elim
  | [_, _, _], h => h.elim
  | [_, _, _, _], h => h.elim
  | [_, _, _, _, _], h => h.elim
  | [_, _, _, _, _, _], h => h.elim
  | [_, _, _, _, _, _, _], h => h.elim
  | _ :: _ :: _ :: _ :: _ :: _ :: _ :: _ :: _ :: _, h => h.elim
def arg9 (R : V → V → V → V → V → V → V → V → V →  Prop) : List V → Prop | [a, b, c, d, e, f, g, h, i] => R a b c d e f g h i | _ => False
theorem arg9.ex {R : V → V → V → V → V → V → V → V → V →  Prop} : ∀ {vs : List V}, arg9 R vs → ∃ a b c d e f g h i, vs = [a, b, c, d, e, f, g, h, i] ∧ R a b c d e f g h i
  | [a, b, c, d, e, f, g, h, i], hyp => ⟨a, b, c, d, e, f, g, h, i, rfl, hyp⟩
  | [], h => h.elim
  | [_], h => h.elim
  | [_, _], h => h.elim
  | [_, _, _], h => h.elim
  | [_, _, _, _], h => h.elim
  | [_, _, _, _, _], h => h.elim
  | [_, _, _, _, _, _], h => h.elim
  | [_, _, _, _, _, _, _], h => h.elim
  | [_, _, _, _, _, _, _, _], h => h.elim
  | _ :: _ :: _ :: _ :: _ :: _ :: _ :: _ :: _ :: _ :: _, h => h.elim
/-! ### heaps -/
theorem same_new {H : Hp} {p : Addr} {o : HO} (h : H p = none) : Same H (upd H p o) := fun b u e => by
  rw [upd_ne (ne_of_none e h)]
  exact e
theorem Wf.set {H : Hp} {p : Addr} {o : HO} (w : Wf H) (f : Flat o) (h : ∀ x, H p ≠ some (.own x)) : Wf (upd H p o) := fun a u e => by
  by_cases ha : a = p
  · subst ha
    rw [upd_same] at e
    cases e
    exact .inl f
  · rw [upd_ne ha] at e
    rcases w a u e with q | ⟨C, dx, fs, rfl, hd⟩
    · exact .inl q
    · refine .inr ⟨C, dx, fs, rfl, ?_⟩
      rw [upd_ne (fun z => h a (by rw [← z]; exact hd))]
      exact hd
theorem Wf.new {H : Hp} {p : Addr} {o : HO} (w : Wf H) (f : Flat o) (h : H p = none) : Wf (upd H p o) := w.set f fun x z => by rw [h] at z; cases z
theorem Wf.at {H : Hp} {p : Addr} {o u : HO} (w : Wf H) (f : Flat o) (h : H p = some u) (hu : ∀ x, u ≠ .own x) : Wf (upd H p o) := w.set f fun x z => by
  rw [h] at z
  exact hu x (Option.some.inj z)
theorem bQ.same {H H' : Hp} {Q : VK} {v : V} (w : Wf H) (s : Same H H') (q : Q v H) : bQ H Q v H' := ⟨H, ⟨s, fun a o e => by rw [e, s a o e], w⟩, q⟩
/-! ### a list of two numbers from which digits are drawn -/
def stL (p q : Int) : HO := .lst [.int p, .int q]
/-- it stands at a, its first number not below nought -/
def St2 (H : Hp) (a : Addr) : Prop := ∃ p q, H a = some (stL p q) ∧ 0 ≤ p
/-- all but it is as it was -/
structure Dr (a : Addr) (H H' : Hp) : Prop where
  kp : ∀ b o, b ≠ a → H b = some o → H' b = some o
  st : St2 H' a
  wf : Wf H'
theorem Dr.refl {a : Addr} {H : Hp} (s : St2 H a) (w : Wf H) : Dr a H H := ⟨fun _ _ _ h => h, s, w⟩
theorem Dr.trans {a : Addr} {H H1 H2 : Hp} (x : Dr a H H1) (y : Dr a H1 H2) : Dr a H H2 := ⟨fun b o n e => y.kp b o n (x.kp b o n e), y.st, y.wf⟩
theorem Dr.drawn {a : Addr} {H H1 : Hp} {p q : Int} (x : Dr a H H1) (h : 0 ≤ p) : Dr a H (upd H1 a (stL p q)) := by
  obtain ⟨p0, q0, e, _⟩ := x.st
  refine ⟨fun b o n e => ?_, ⟨p, q, upd_same, h⟩, x.wf.at trivial e fun x z => by cases z⟩
  rw [upd_ne n]
  exact x.kp b o n e
theorem Dr.new {a p : Addr} {o : HO} {H H1 : Hp} (x : Dr a H H1) (h : H1 p = none) (f : Flat o) : Dr a H (upd H1 p o) := by
  obtain ⟨p0, q0, e, h0⟩ := x.st
  refine ⟨fun b u n e => ?_, ⟨p0, q0, ?_, h0⟩, x.wf.new f h⟩
  · have q := x.kp b u n e
    rw [upd_ne (ne_of_none q h)]
    exact q
  · rw [upd_ne (ne_of_none e h)]
    exact e
theorem Dr.done {a : Addr} {H H' : Hp} {Q : VK} {v : V} (x : Dr a H H') (w : Wf H) (s : St2 H a) (q : ∀ p q, 0 ≤ p → Q v (upd H a (stL p q))) : bQ H Q v H' := by
  obtain ⟨p, q0, e, h⟩ := x.st
  obtain ⟨p1, q1, e1, _⟩ := s
  refine ⟨upd H a (stL p q0), ⟨fun b o z => ?_, fun b o z => ?_, w.at trivial e1 fun x z => by cases z⟩, q p q0 h⟩
  · by_cases hb : b = a
    · subst hb
      rw [upd_same] at z
      rw [e, z]
    · rw [upd_ne hb] at z
      exact x.kp b o hb z
  · by_cases hb : b = a
    · subst hb
      rw [upd_same, e]
    · rw [upd_ne hb, z, x.kp b o hb z]
theorem Dr.at {a b : Addr} {o : HO} {H H' : Hp} (x : Dr a H H') (h : H b = some o) (n : ∀ p q, o ≠ stL p q) (s : St2 H a) : H' b = some o := by
  obtain ⟨p, q, e, _⟩ := s
  exact x.kp b o (fun z => by subst z; rw [h] at e; exact n p q (Option.some.inj e)) h
/-- a place in a list, a text -/
theorem at_lt {α : Type} {xs : List α} {i : Int} (h0 : 0 ≤ i) (h1 : i < xs.length) : ∃ v, atI xs i = some v ∧ v ∈ xs := by
  obtain ⟨j, rfl⟩ : ∃ j : Nat, i = j := ⟨i.toNat, by omega⟩
  have hj : j < xs.length := by omega
  exact ⟨xs[j], atI_nat (List.getElem?_eq_getElem hj), List.getElem_mem hj⟩
theorem line_of {n : Nat} (h : n ≤ 16777216) : n ≤ sizeLine := by rw [sizeLine_eq]; exact h
theorem line_lt {n : Nat} (h : n < 16777216) : n < sizeLine := by rw [sizeLine_eq]; exact h
/-! ### types of values -/
def Known (K : PySem.W.Frag) (H : Hp) (v : V) : Prop := match v with
  | .non => True
  | .bl _ => True
  | .int _ => True
  | .str _ => True
  | .ref p => (∃ xs, H p = some (.lst xs)) ∨ (∃ xs, H p = some (.tup xs)) ∨ ∃ kvs, H p = some (.dK kvs)
  | _ => False
def isStr : V → Bool | .str _ => true | _ => false
def isInt : V → Bool | .int _ => true | .bl _ => true | _ => false
def isBl : V → Bool | .bl _ => true | _ => false
section
variable {K : PySem.W.Frag} {H : Hp}
theorem isi_ty {x : V} {n m : String} {b : Bool} (h : TyX K H x (.type n)) (e : kitB n m = some b) : IsiV K H x m b := ⟨_, h, kit_ty e⟩
theorem isi_str : ∀ {v : V}, Known K H v → IsiV K H v "str" (isStr v)
  | .non, _ => isi_ty (b := false) (.base .non) (by decide +kernel)
  | .bl _, _ => isi_ty (b := false) (.base (.bl _)) (by decide +kernel)
  | .int _, _ => isi_ty (b := false) (.base (.int _)) (by decide +kernel)
  | .str _, _ => isi_ty (b := true) (.base (.str _)) (by decide +kernel)
  | .ref _, .inl ⟨_, h⟩ => isi_ty (b := false) (.base (.lst h)) (by decide +kernel)
  | .ref _, .inr (.inl ⟨_, h⟩) => isi_ty (b := false) (.base (.tup h)) (by decide +kernel)
  | .ref _, .inr (.inr ⟨_, h⟩) => isi_ty (b := false) (.base (.dK h)) (by decide +kernel)
theorem isi_int : ∀ {v : V}, Known K H v → IsiV K H v "int" (isInt v)
  | .non, _ => isi_ty (b := false) (.base .non) (by decide +kernel)
  | .bl _, _ => isi_ty (b := true) (.base (.bl _)) (by decide +kernel)
  | .int _, _ => isi_ty (b := true) (.base (.int _)) (by decide +kernel)
  | .str _, _ => isi_ty (b := false) (.base (.str _)) (by decide +kernel)
  | .ref _, .inl ⟨_, h⟩ => isi_ty (b := false) (.base (.lst h)) (by decide +kernel)
  | .ref _, .inr (.inl ⟨_, h⟩) => isi_ty (b := false) (.base (.tup h)) (by decide +kernel)
  | .ref _, .inr (.inr ⟨_, h⟩) => isi_ty (b := false) (.base (.dK h)) (by decide +kernel)
theorem isi_bool : ∀ {v : V}, Known K H v → IsiV K H v "bool" (isBl v)
  | .non, _ => isi_ty (b := false) (.base .non) (by decide +kernel)
  | .bl _, _ => isi_ty (b := true) (.base (.bl _)) (by decide +kernel)
  | .int _, _ => isi_ty (b := false) (.base (.int _)) (by decide +kernel)
  | .str _, _ => isi_ty (b := false) (.base (.str _)) (by decide +kernel)
  | .ref _, .inl ⟨_, h⟩ => isi_ty (b := false) (.base (.lst h)) (by decide +kernel)
  | .ref _, .inr (.inl ⟨_, h⟩) => isi_ty (b := false) (.base (.tup h)) (by decide +kernel)
  | .ref _, .inr (.inr ⟨_, h⟩) => isi_ty (b := false) (.base (.dK h)) (by decide +kernel)
end
end R
namespace R
open PySem PySem.Spec PyProof.Rows L2
theorem iteP {p : Prop} [Decidable p] {A B : Prop} (h : p) (a : A) : if decide p = true then A else B := by
  rw [if_pos (decide_eq_true h)]
  exact a
theorem iteN {p : Prop} [Decidable p] {A B : Prop} (h : ¬ p) (b : B) : if decide p = true then A else B := by
  rw [if_neg (by rw [decide_eq_false h]; exact Bool.false_ne_true)]
  exact b
theorem iteC {p : Prop} [Decidable p] {A B : Prop} (a : p → A) (b : ¬ p → B) : if decide p = true then A else B := by
  by_cases h : p
  · exact iteP h (a h)
  · exact iteN h (b h)
/-- a comprehension without tests whose element changes nothing -/
theorem lc_map {J : It} {n : Nat} {G : Hp → Prop} {Y : Nat → Hp → V → Hp → Prop} (w : Walk J n G Y) (It' : Nat → V → Prop) (hy : ∀ i H x H', Y i H x H' → H' = H ∧ It' i x) (f : Nat → V) {g : TG} {te : TE} {vs : List Nat} {σ : L2.St} {H1 : Hp} {D : Addr} {Qd : Hp → Prop}
    (hn : n < sizeLine) (hG : ∀ o, G (upd H1 D o))
    (hs : ∀ (i : Nat) (x : V) (acc : List V) (C : V → Hp → Prop), i < n → It' i x → C (f i) (upd H1 D (.lst acc)) → g x (wipe σ vs) (upd H1 D (.lst acc)) fun σ2 H2 => wipe σ2 vs = wipe σ vs ∧ te σ2 H2 C)
    (hd : Qd (upd H1 D (.lst ((List.range n).map f)))) :
    ∃ W : Nat → Nat → Hp → Prop, (∃ m, W 0 m (upd H1 D (.lst []))) ∧ ∀ i m H, W i m H →
      (J.stop i H ∧ Qd H) ∨ (J.go i H ∧ ∃ Nx : Hp → Prop, (∀ H', Nx H' → ∃ m', m' < m ∧ W (i + 1) m' H') ∧ ∀ x H', J.yld i H x H' → g x (wipe σ vs) H' fun σ2 H2 => wipe σ2 vs = wipe σ vs ∧ tYes σ2 H2 fun b H3 =>
        if b = true then te σ2 H3 fun y H4 => ∃ acc, H4 D = some (.lst acc) ∧ acc.length < sizeLine ∧ Nx (upd H4 D (.lst (acc ++ [y]))) else Nx H3) := by
  refine ⟨fun i m H => m = n - i ∧ i ≤ n ∧ H = upd H1 D (.lst ((List.range i).map f)), ⟨n, by simp, Nat.zero_le _, rfl⟩, ?_⟩
  rintro i m H ⟨rfl, hi, rfl⟩
  by_cases hlt : i < n
  · refine .inr ⟨w.goes i _ hlt (hG _), fun H' => H' = upd H1 D (.lst ((List.range (i + 1)).map f)), fun H' e => ⟨n - (i + 1), by omega, rfl, hlt, e⟩, fun x H' y => ?_⟩
    obtain ⟨rfl, hx⟩ := hy _ _ _ _ (w.yields i _ x H' hlt (hG _) y)
    refine hs i x _ (fun y H4 => ∃ acc, H4 D = some (.lst acc) ∧ acc.length < sizeLine ∧ upd H4 D (.lst (acc ++ [y])) = upd H1 D (.lst ((List.range (i + 1)).map f))) hlt hx ⟨_, upd_same, ?_, ?_⟩
    · rw [List.length_map, List.length_range]
      exact Nat.lt_trans hlt hn
    · rw [upd_upd, List.range_succ, List.map_append]
      rfl
  · have e : i = n := by omega
    subst e
    exact .inl ⟨w.stops _ (hG _), hd⟩
theorem range_getD {α β : Type} (l : List α) (d : α) (f : α → β) : (List.range l.length).map (fun i => f (l.getD i d)) = l.map f := by
  apply List.ext_getElem
  · simp
  · intro i h1 h2
    simp at h1 h2 ⊢
    simp [List.getElem?_eq_getElem h1]
end R
namespace R
theorem iteB {c : Bool} {A B : Prop} (a : c = true → A) (b : c = false → B) : if c = true then A else B := by
  cases c with
  | true => rw [if_pos rfl]; exact a rfl
  | false => rw [if_neg Bool.false_ne_true]; exact b rfl
theorem nd_t {p : Prop} [Decidable p] (h : (!decide p) = true) : ¬ p := by simpa using h
theorem nd_f {p : Prop} [Decidable p] (h : (!decide p) = false) : p := by simpa using h
end R
namespace R
open PySem PySem.Spec PyProof.Rows L2
/-- a comprehension with tests whose parts change nothing -/
theorem lc_filt {J : It} {n : Nat} {G : Hp → Prop} {Y : Nat → Hp → V → Hp → Prop} (w : Walk J n G Y) (It' : Nat → V → Prop) (hy : ∀ i H x H', Y i H x H' → H' = H ∧ It' i x) (f : Nat → V) (p : Nat → Bool) {g : TG} {tt : TT} {te : TE} {vs : List Nat} {σ : L2.St} {H1 : Hp} {D : Addr} {Qd : Hp → Prop}
    (hn : n < sizeLine) (hG : ∀ o, G (upd H1 D o))
    (hs : ∀ (i : Nat) (x : V) (acc : List V) (C : V → Hp → Prop) (Cn : Hp → Prop), i < n → It' i x → (p i = true → C (f i) (upd H1 D (.lst acc))) → (p i = false → Cn (upd H1 D (.lst acc))) →
      g x (wipe σ vs) (upd H1 D (.lst acc)) fun σ2 H2 => wipe σ2 vs = wipe σ vs ∧ tt σ2 H2 fun b H3 => if b = true then te σ2 H3 C else Cn H3)
    (hd : Qd (upd H1 D (.lst (((List.range n).filter p).map f)))) :
    ∃ W : Nat → Nat → Hp → Prop, (∃ m, W 0 m (upd H1 D (.lst []))) ∧ ∀ i m H, W i m H →
      (J.stop i H ∧ Qd H) ∨ (J.go i H ∧ ∃ Nx : Hp → Prop, (∀ H', Nx H' → ∃ m', m' < m ∧ W (i + 1) m' H') ∧ ∀ x H', J.yld i H x H' → g x (wipe σ vs) H' fun σ2 H2 => wipe σ2 vs = wipe σ vs ∧ tt σ2 H2 fun b H3 =>
        if b = true then te σ2 H3 fun y H4 => ∃ acc, H4 D = some (.lst acc) ∧ acc.length < sizeLine ∧ Nx (upd H4 D (.lst (acc ++ [y]))) else Nx H3) := by
  refine ⟨fun i m H => m = n - i ∧ i ≤ n ∧ H = upd H1 D (.lst (((List.range i).filter p).map f)), ⟨n, by simp, Nat.zero_le _, rfl⟩, ?_⟩
  rintro i m H ⟨rfl, hi, rfl⟩
  by_cases hlt : i < n
  · refine .inr ⟨w.goes i _ hlt (hG _), fun H' => H' = upd H1 D (.lst (((List.range (i + 1)).filter p).map f)), fun H' e => ⟨n - (i + 1), by omega, rfl, hlt, e⟩, fun x H' y => ?_⟩
    obtain ⟨rfl, hx⟩ := hy _ _ _ _ (w.yields i _ x H' hlt (hG _) y)
    refine hs i x _ (fun y H4 => ∃ acc, H4 D = some (.lst acc) ∧ acc.length < sizeLine ∧ upd H4 D (.lst (acc ++ [y])) = upd H1 D (.lst (((List.range (i + 1)).filter p).map f))) _ hlt hx (fun hp => ⟨_, upd_same, ?_, ?_⟩) (fun hp => ?_)
    · rw [List.length_map]
      refine Nat.lt_of_le_of_lt (List.length_filter_le _ _) ?_
      rw [List.length_range]
      exact Nat.lt_trans hlt hn
    · rw [upd_upd, List.range_succ, List.filter_append, List.map_append, List.filter_cons_of_pos hp]
      rfl
    · rw [List.range_succ, List.filter_append, List.filter_cons_of_neg (by rw [hp]; exact Bool.false_ne_true)]
      simp
  · have e : i = n := by omega
    subst e
    exact .inl ⟨w.stops _ (hG _), hd⟩
theorem filt_getD {α β : Type} (l : List α) (d : α) (q : α → Bool) (f : α → β) : ((List.range l.length).filter fun i => q (l.getD i d)).map (fun i => f (l.getD i d)) = (l.filter q).map f := by
  have h : (List.range l.length).map (fun i => l.getD i d) = l := by
    have := range_getD l d id
    simpa using this
  have h2 : ((List.range l.length).filter fun i => q (l.getD i d)).map (fun i => l.getD i d) = l.filter q := by
    conv => rhs; rw [← h]
    rw [List.filter_map]
    rfl
  rw [← h2, List.map_map]
  rfl
theorem joinL_nil : ∀ ps : List (List Nat), TL.joinL [] ps = ps.flatten
  | [] => rfl
  | [p] => by simp [TL.joinL]
  | p :: q :: r => by
    show p ++ ([] ++ TL.joinL [] (q :: r)) = _
    rw [joinL_nil (q :: r)]
    rfl
theorem join_ones (cs : List Nat) : Txt.join (⟨#[]⟩ : Str) (cs.map fun c => (⟨#[c]⟩ : Str)) = ⟨cs.toArray⟩ := by
  have e : ∀ cs : List Nat, (cs.map fun c => [c]).flatten = cs := fun cs => by
    induction cs with
    | nil => rfl
    | cons c r ih =>
      rw [List.map_cons, List.flatten_cons, ih]
      rfl
  have h := SX.join_S [] (cs.map fun c => [c])
  rw [joinL_nil, List.map_map, e] at h
  exact h
theorem dp_strs {K : PySem.W.Frag} {H : Hp} : ∀ zs : List Str, DpAll K H (zs.map V.str) (zs.map PyData.str)
  | [] => .nil
  | z :: zs => .cons (.str z) (dp_strs zs)
theorem dp_ints {K : PySem.W.Frag} {H : Hp} : ∀ zs : List Int, DpAll K H (zs.map V.int) (zs.map PyData.int)
  | [] => .nil
  | z :: zs => .cons (.int z) (dp_ints zs)
end R
namespace R
open PySem PySem.Spec PyProof.Rows L2
theorem Dr.put {a D : Addr} {o u : HO} {H H1 : Hp} (x : Dr a H H1) (hD : H D = none) (e : H1 D = some u) (nu : ∀ x, u ≠ .own x) (f : Flat o) (n : D ≠ a) : Dr a H (upd H1 D o) := by
  obtain ⟨p0, q0, e0, h0⟩ := x.st
  refine ⟨fun b z nb eb => ?_, ⟨p0, q0, ?_, h0⟩, x.wf.at f e nu⟩
  · rw [upd_ne (ne_of_none eb hD)]
    exact x.kp b z nb eb
  · rw [upd_ne n.symm]
    exact e0
end R
namespace R
open PySem PySem.Spec PyProof.Rows L2
abbrev sOk (z : Str) : Prop := PyData.strOk z = true
theorem sOk_iff {z : Str} : sOk z ↔ ∀ c ∈ z.cps.toList, c < 0x110000 := by
  unfold sOk PyData.strOk
  rw [← Array.all_toList, List.all_eq_true]
  simp
theorem sOk_app {x y : Str} (h : sOk x) (g : sOk y) : sOk (x ++ y) := by
  rw [sOk_iff] at h g ⊢
  intro c hc
  have e := TL.tl_append x y
  have hc' : c ∈ TL.tl (x ++ y) := hc
  rw [e, List.mem_append] at hc'
  rcases hc' with q | q
  · exact h c q
  · exact g c q
theorem sOk_cut {z : Str} {lo hi : Option Int} (h : sOk z) : sOk (cutS z lo hi) := by
  rw [sOk_iff] at h ⊢
  intro c hc
  refine h c ?_
  have hc' : c ∈ (z.cps.toList.drop (HT.sIx z.length 0 lo)).take (HT.sIx z.length z.length hi - HT.sIx z.length 0 lo) := hc
  exact List.mem_of_mem_drop (List.mem_of_mem_take hc')
theorem sOk_list {cs : List Nat} (h : ∀ c ∈ cs, c < 0x110000) : sOk ⟨cs.toArray⟩ := sOk_iff.mpr (by simpa using h)
theorem sOk_one {c : Nat} (h : c < 0x110000) : sOk ⟨#[c]⟩ := sOk_list (cs := [c]) (by simpa using h)
theorem shape_strs {zs : List Str} (h : ∀ z ∈ zs, sOk z) : SeqAt.shaped (.list (zs.map .str)) = true := by
  have h1 : PyData.canLayAll0 (zs.map .str) = true := by
    induction zs with
    | nil => rfl
    | cons z r ih =>
      show (PyData.canLay0 (.str z) && PyData.canLayAll0 (r.map .str)) = true
      rw [ih fun y hy => h y (List.mem_cons_of_mem _ hy), Bool.and_true]
      exact h z List.mem_cons_self
  have h2 : PyData.depthAll (zs.map .str) = 0 := by
    clear h h1
    induction zs with
    | nil => rfl
    | cons z r ih =>
      show max 0 (PyData.depthAll (r.map .str)) = 0
      rw [ih]
      rfl
  unfold SeqAt.shaped
  show (PyData.canLayAll0 (zs.map .str) && decide (PyData.depthAll (zs.map .str) + 1 ≤ 64)) = true
  rw [h1, h2]
  rfl
/-- what behind a statement is wanted, told first -/
def sCut (t : TS) : TS := fun D σ H => ∃ P : L2.St → Hp → Prop, t { D with nx := P } σ H ∧ ∀ σ' H', P σ' H' → D.nx σ' H'
theorem ps_cut {X : Cx} {b : Stmt} {t : TS} (h : PS X b t) : PS X b (sCut t) := ⟨fun pins s σ H D I q => by
  obtain ⟨P, q1, q2⟩ := q
  refine thn (h.run pins s σ H _ I q1) fun f s1 z => ?_
  cases f with
  | next =>
    obtain ⟨σ', H', I', q⟩ := z
    exact ⟨σ', H', I', q2 _ _ q⟩
  | brk => exact z
  | cont => exact z
  | ret u => exact z⟩
/-- the same of a value -/
def eCut (t : TE) : TE := fun σ H Q => ∃ P : VK, t σ H P ∧ ∀ v H', P v H' → Q v H'
theorem pe_cut {X : Cx} {e : Expr} {t : TE} (h : PE X e t) : PE X e (eCut t) := ⟨fun pins s σ H Q I q => by
  obtain ⟨P, q1, q2⟩ := q
  exact thn (h.run pins s σ H _ I q1) fun u s1 ⟨v, H', I', r, q⟩ => ⟨v, H', I', r, q2 _ _ q⟩⟩
theorem wf_only {H : Hp} (h : Only H) : Wf H := fun a o e => by
  rcases h a with q | ⟨ob, xs, q⟩
  · rw [q] at e
    cases e
  · rw [q] at e
    cases e
    exact .inl trivial
theorem lt_one {c d : Nat} : (([c] : List Nat) < [d]) ↔ c < d := by
  rw [List.cons_lt_cons_iff]
  constructor
  · rintro (h | ⟨_, h⟩)
    · exact h
    · exact absurd h (List.lt_irrefl _)
  · exact .inl
end R
namespace R
theorem st_ne {H : L2.Hp} {a l : PySem.Addr} (s : St2 H a) (n : H l = none) : l ≠ a := fun e => by
  obtain ⟨_, _, e1, _⟩ := s
  rw [← e, n] at e1
  cases e1
theorem bE.same {H H' : L2.Hp} {E : L2.XK} {c : PySem.Value} {d : Option PySem.Addr} (w : Wf H) (s : L2.Same H H') (q : E c d H) : bE H E c d H' := ⟨H, ⟨s, fun a o e => by rw [e, s a o e], w⟩, q⟩
theorem bE.mk {H H' : L2.Hp} {E : L2.XK} {c : PySem.Value} {d : Option PySem.Addr} (w : Wf H') (q : E c d H') : bE H E c d H' := ⟨H', Back.refl w, q⟩
end R
namespace R
open PySem PySem.Spec PyProof.Rows L2
/-! ### what is known of a value's type; data -/
/-- its type is one of the plain ones -/
def Kn (K : PySem.W.Frag) (H : Hp) (v : V) : Prop := match v with
  | .non => True
  | .bl _ => True
  | .int _ => True
  | .str _ => True
  | .ref p => TyX K H (.ref p) (.type "list") ∨ TyX K H (.ref p) (.type "tuple") ∨ TyX K H (.ref p) (.type "dict")
  | _ => False
section
variable {K : PySem.W.Frag} {H H' : Hp}
theorem ty_l {p : Addr} {xs : List V} (h : SqL K H p xs) : TyX K H (.ref p) (.type "list") := by
  rcases h with (h | ⟨o, h⟩) | ⟨o, _, _, h, c, _⟩
  · exact .base (.lst h)
  · exact .base (.frz h)
  · exact .kList h c
theorem ty_t {p : Addr} {xs : List V} (h : SqT K H p xs) : TyX K H (.ref p) (.type "tuple") := by
  rcases h with (h | ⟨o, h⟩) | ⟨o, _, _, h, c, _⟩
  · exact .base (.tup h)
  · exact .fTuple h
  · exact .kTuple h c
theorem Known.kn : ∀ {v : V}, Known K H v → Kn K H v
  | .non, h => h
  | .bl _, h => h
  | .int _, h => h
  | .str _, h => h
  | .ref _, .inl ⟨_, h⟩ => .inl (.base (.lst h))
  | .ref _, .inr (.inl ⟨_, h⟩) => .inr (.inl (.base (.tup h)))
  | .ref _, .inr (.inr ⟨_, h⟩) => .inr (.inr (.base (.dK h)))
  | .byt _, h => h.elim
  | .flt _, h => h.elim
  | .ty _, h => h.elim
theorem kn_dp {v : V} {d : PyData} (h : Dp K H v d) : Kn K H v := by
  cases h with
  | non => trivial
  | bl _ => trivial
  | int _ => trivial
  | str _ => trivial
  | lst h _ => exact .inl (ty_l h)
  | tup h _ => exact .inr (.inl (ty_t h))
theorem isk_str : ∀ {v : V}, Kn K H v → IsiV K H v "str" (isStr v)
  | .non, _ => isi_ty (b := false) (.base .non) (by decide +kernel)
  | .bl _, _ => isi_ty (b := false) (.base (.bl _)) (by decide +kernel)
  | .int _, _ => isi_ty (b := false) (.base (.int _)) (by decide +kernel)
  | .str _, _ => isi_ty (b := true) (.base (.str _)) (by decide +kernel)
  | .ref _, .inl h => isi_ty (b := false) h (by decide +kernel)
  | .ref _, .inr (.inl h) => isi_ty (b := false) h (by decide +kernel)
  | .ref _, .inr (.inr h) => isi_ty (b := false) h (by decide +kernel)
theorem isk_int : ∀ {v : V}, Kn K H v → IsiV K H v "int" (isInt v)
  | .non, _ => isi_ty (b := false) (.base .non) (by decide +kernel)
  | .bl _, _ => isi_ty (b := true) (.base (.bl _)) (by decide +kernel)
  | .int _, _ => isi_ty (b := true) (.base (.int _)) (by decide +kernel)
  | .str _, _ => isi_ty (b := false) (.base (.str _)) (by decide +kernel)
  | .ref _, .inl h => isi_ty (b := false) h (by decide +kernel)
  | .ref _, .inr (.inl h) => isi_ty (b := false) h (by decide +kernel)
  | .ref _, .inr (.inr h) => isi_ty (b := false) h (by decide +kernel)
theorem isk_bool : ∀ {v : V}, Kn K H v → IsiV K H v "bool" (isBl v)
  | .non, _ => isi_ty (b := false) (.base .non) (by decide +kernel)
  | .bl _, _ => isi_ty (b := true) (.base (.bl _)) (by decide +kernel)
  | .int _, _ => isi_ty (b := false) (.base (.int _)) (by decide +kernel)
  | .str _, _ => isi_ty (b := false) (.base (.str _)) (by decide +kernel)
  | .ref _, .inl h => isi_ty (b := false) h (by decide +kernel)
  | .ref _, .inr (.inl h) => isi_ty (b := false) h (by decide +kernel)
  | .ref _, .inr (.inr h) => isi_ty (b := false) h (by decide +kernel)
def isTupD : PyData → Bool | .tuple _ => true | _ => false
theorem isk_tup {v : V} {d : PyData} (h : Dp K H v d) : IsiV K H v "tuple" (isTupD d) := by
  cases h with
  | non => exact isi_ty (b := false) (.base .non) (by decide +kernel)
  | bl _ => exact isi_ty (b := false) (.base (.bl _)) (by decide +kernel)
  | int _ => exact isi_ty (b := false) (.base (.int _)) (by decide +kernel)
  | str _ => exact isi_ty (b := false) (.base (.str _)) (by decide +kernel)
  | lst h _ => exact isi_ty (b := false) (ty_l h) (by decide +kernel)
  | tup h _ => exact isi_ty (b := true) (ty_t h) (by decide +kernel)
def isLstD : PyData → Bool | .list _ => true | _ => false
theorem isk_lst {v : V} {d : PyData} (h : Dp K H v d) : IsiV K H v "list" (isLstD d) := by
  cases h with
  | non => exact isi_ty (b := false) (.base .non) (by decide +kernel)
  | bl _ => exact isi_ty (b := false) (.base (.bl _)) (by decide +kernel)
  | int _ => exact isi_ty (b := false) (.base (.int _)) (by decide +kernel)
  | str _ => exact isi_ty (b := false) (.base (.str _)) (by decide +kernel)
  | lst h _ => exact isi_ty (b := true) (ty_l h) (by decide +kernel)
  | tup h _ => exact isi_ty (b := false) (ty_t h) (by decide +kernel)
/-- what data lean on: every address's object that is read -/
theorem sqt_keep {p : Addr} {xs : List V} (k : ∀ o, H p = some o → H' p = some o) (h : SqT K H p xs) : SqT K H' p xs := by
  rcases h with (h | ⟨o, h⟩) | h
  · exact .inl (.inl (k _ h))
  · exact .inl (.inr ⟨o, k _ h⟩)
  · exact .inr h
theorem sql_keep {p : Addr} {xs : List V} (k : ∀ o, H p = some o → H' p = some o) (h : SqL K H p xs) : SqL K H' p xs := by
  rcases h with (h | ⟨o, h⟩) | h
  · exact .inl (.inl (k _ h))
  · exact .inl (.inr ⟨o, k _ h⟩)
  · exact .inr h
mutual
theorem dp_keep (k : ∀ p o, H p = some o → H' p = some o) : ∀ {v : V} {d : PyData}, Dp K H v d → Dp K H' v d
  | _, _, .non => .non
  | _, _, .bl b => .bl b
  | _, _, .int i => .int i
  | _, _, .str z => .str z
  | _, _, .lst h a => .lst (sql_keep (k _) h) (dpa_keep k a)
  | _, _, .tup h a => .tup (sqt_keep (k _) h) (dpa_keep k a)
theorem dpa_keep (k : ∀ p o, H p = some o → H' p = some o) : ∀ {vs : List V} {ds : List PyData}, DpAll K H vs ds → DpAll K H' vs ds
  | _, _, .nil => .nil
  | _, _, .cons h a => .cons (dp_keep k h) (dpa_keep k a)
end
theorem dpa_len : ∀ {vs : List V} {ds : List PyData}, DpAll K H vs ds → vs.length = ds.length
  | _, _, .nil => rfl
  | _, _, .cons _ a => congrArg (· + 1) (dpa_len a)
theorem dpa_at : ∀ {vs : List V} {ds : List PyData}, DpAll K H vs ds → ∀ {i : Nat} {v : V}, vs[i]? = some v → ∃ d, ds[i]? = some d ∧ Dp K H v d
  | _, _, .nil, i, v, e => by simp at e
  | _, _, .cons h _, 0, v, e => by cases Option.some.inj e; exact ⟨_, rfl, h⟩
  | _, _, .cons _ a, i + 1, v, e => dpa_at a (i := i) (by simpa using e)
/-- data that do not lean on what stands at a -/
def hid (a : Addr) (H : Hp) : Hp := fun b => if b = a then none else H b
abbrev Da (K : PySem.W.Frag) (a : Addr) (H : Hp) (v : V) (d : PyData) : Prop := Dp K (hid a H) v d
theorem Da.dp {a : Addr} {v : V} {d : PyData} (h : Da K a H v d) : Dp K H v d := dp_keep (fun p o e => by
  unfold hid at e
  split at e
  · cases e
  · exact e) h
theorem Da.dr {a : Addr} {v : V} {d : PyData} (h : Da K a H v d) (x : Dr a H H') : Da K a H' v d := dp_keep (fun p o e => by
  unfold hid at e ⊢
  split at e
  · cases e
  · rename_i n
    rw [if_neg n]
    exact x.kp p o n e) h
theorem dp_ne {a : Addr} {v : V} {d : PyData} (n : H a = none) (h : Dp K H v d) : Da K a H v d := dp_keep (fun p o e => by
  unfold hid
  rw [if_neg (ne_of_none e n)]
  exact e) h
/-- equality of data -/
theorem eq_d {v u : V} {d e : PyData} {Q : VK} (h : Dp K H v d) (g : Dp K H u e) (s1 : SeqAt.shaped d = true) (s2 : SeqAt.shaped e = true) (hs : scal v u = false) (q : Q (.bl (PyData.eqv d e)) H) : rEqU K v u H Q := by
  unfold rEqU
  rw [hs]
  exact ⟨d, e, h, g, s1, s2, q⟩
end
/-! ### own exceptions over ValueError, without an own __init__ -/
abbrev veB : List Value := [.type "ValueError", .type "Exception", .type "BaseException", .type "object"]
/-- what the class at C, named x, must say -/
structure Exc (K : PySem.W.Frag) (mg : Str → Option Value) (x : Str) (C : Addr) : Prop where
  g : mg x = some (.ref C)
  x : PySem.W.excIn K C veB "ValueError.__new__" = true
  k : PySem.W.keepIn K (.ref C) = true
  b : PySem.W.subIn K (.ref C) (.type "BaseException") = some true
  t : PySem.W.typeIn K (.ref C) = some (.type "type")
  d : PySem.W.hasDictIn K C = true
  v : PySem.W.subIn K (.ref C) (.type "ValueError") = some true
  cc : ExcC K C
theorem pmk_exc {X : Cx} {x m : Str} {C : Addr} {j : Nat} {p p2 pos : Pos} (e : Exc X.K X.mg x C) (hg : Gl X x := by rfl) (hdb : (x == ("__debug__" : Str)) = false := by decide) :
    PMk X (.Call (.Name x p) [.Constant (.str m) j p2] [] pos) (fun _ H Q => Q (.ref C) none H) :=
  pmk_own PySem.F.excBase_ValueError e.x e.g e.k (raises_own e.b e.t) hg hdb
theorem ps_rai {X : Cx} {x m : Str} {C : Addr} {j : Nat} {p p2 pos pos2 : Pos} {W : WX} (e : Exc X.K X.mg x C) (tk : Takes X W) (hc : X.calm = true := by rfl) (hg : Gl X x := by rfl) (hdb : (x == ("__debug__" : Str)) = false := by decide) :
    PS X (.Raise (some (.Call (.Name x p) [.Constant (.str m) j p2] [] pos)) none pos2) (fun _ σ H => W (.ref C) none σ H) := ps_raise hc tk (pmk_exc e hg hdb)
/-- C is under D, or not -/
theorem exc_under {K : PySem.W.Frag} {mg : Str → Option Value} {x y : Str} {C D : Addr} {b : Bool} (e : Exc K mg x C) (f : Exc K mg y D) (h : PySem.W.subIn K (.ref C) (.ref D) = some b) : PySem.W.exmOne K (.ref C) (.ref D) = some b := PySem.W.exm_ref f.b f.d f.t h
theorem exc_kit {K : PySem.W.Frag} {mg : Str → Option Value} {x y : Str} {C D : Addr} {b : Bool} (f : Exc K mg y D) (hne : C = D → b = true) (h : PySem.W.subIn K (.ref C) (.ref D) = some b) : PySem.W.kitOne K (.ref C) (.ref D) = some b := by
  unfold PySem.W.kitOne
  by_cases e : C = D
  · subst e
    rw [hne rfl]
    simp
  · have n : ((Value.ref C) == Value.ref D) = false := by
      simp only [beq_eq_false_iff_ne, ne_eq, Value.ref.injEq]
      exact e
    rw [n]
    have z := PySem.W.exm_ref f.b f.d f.t h
    unfold PySem.W.exmOne at z
    rw [f.b] at z
    simpa using z
/-- isinstance(e, c) in a suite -/
def rIsX (K : PySem.W.Frag) (cls : Value) (d : Option Addr) (a : Addr) : List V → Hp → VK → Prop := fun xs H Q => ∃ D, cls = .ref D ∧ d = none ∧ ExcC K D ∧ rIsE K D a xs H Q
theorem callU_isX {X : Cx} {K : PySem.W.Frag} {a : Addr} {cls : Value} {d : Option Addr} {oe : Obj} {pn : List (Addr × Obj)} (hz : Zc cls d oe) (hf : ∃ vs, oe.data = .fields vs) (hK : X.K = K := by rfl) : CallR (X.suite a ((a, oe) :: pn)) (.builtin "isinstance") (rIsX K cls d a) := by
  subst hK
  intro pins s σ H xs us Q I r h
  obtain ⟨D, rfl, rfl, c, h⟩ := h
  exact call_isE c hz hf pins s σ H xs us Q I r h
/-- try .. except x as n -/
theorem ps_tryA {X : Cx} {K : PySem.W.Frag} {x n : Str} {C : Addr} {i : Nat} {body suite : List Stmt} {b₀ : Stmt} {np pos pos' : Pos} {tb : WX → TS} {ts : Addr → Value → Option Addr → TS} {Wout : WX} (e : Exc X.K X.mg x C) (hN : X.N.Nodup) (hi : X.N[i]? = some n) (tk : Takes X Wout)
    (hb : ∀ (W : WX) (pn : List (Addr × Obj)) (xe : Value → Shared → Prop), Takes (X.tr pn xe) W → PassesOwn (model X.prog X.w) X.A X.env xe → PSs (X.tr pn xe) body (tb W))
    (hsu : ∀ (a : Addr) (oe : Obj) (cls : Value) (d : Option Addr) (pn : List (Addr × Obj)), Zc cls d oe → (∃ vs, oe.data = .fields vs) → PSs (X.suite a ((a, oe) :: pn)) (b₀ :: suite) (ts a cls d))
    (hs : X.stack = X.env :: X.outer := by rfl) (hf : X.env.frame = some X.env.locals := by rfl) (hln : X.env.kindOf n = some .local := by rfl) (hg : Gl X x := by rfl) (hdb : (x == ("__debug__" : Str)) = false := by decide) (hK : X.K = K := by rfl) :
    PS X (.Try body [.ExceptHandler (some (.Name x np)) (some n) (b₀ :: suite) pos'] [] [] pos) (fun D σ H => tb (wAs K (.ref C) i ts Wout D) D σ H) := by
  subst hK
  exact ps_try_as hs hf hN hi hln ⟨hg, hdb, .inl e.g⟩ tk hb hsu
/-- try .. except x -/
theorem ps_tryO {X : Cx} {K : PySem.W.Frag} {x : Str} {C : Addr} {body suite : List Stmt} {b₀ : Stmt} {np pos pos' : Pos} {tb : WX → TS} {ts : Addr → Value → Option Addr → TS} {Wout : WX} (e : Exc X.K X.mg x C) (tk : Takes X Wout)
    (hb : ∀ (W : WX) (pn : List (Addr × Obj)) (xe : Value → Shared → Prop), Takes (X.tr pn xe) W → PassesOwn (model X.prog X.w) X.A X.env xe → PSs (X.tr pn xe) body (tb W))
    (hsu : ∀ (a : Addr) (oe : Obj) (cls : Value) (d : Option Addr) (pn : List (Addr × Obj)), Zc cls d oe → (∃ vs, oe.data = .fields vs) → PSs (X.suite a ((a, oe) :: pn)) (b₀ :: suite) (ts a cls d))
    (hs : X.stack = X.env :: X.outer := by rfl) (hf : X.env.frame = some X.env.locals := by rfl) (hg : Gl X x := by rfl) (hdb : (x == ("__debug__" : Str)) = false := by decide) (hK : X.K = K := by rfl) :
    PS X (.Try body [.ExceptHandler (some (.Name x np)) none (b₀ :: suite) pos'] [] [] pos) (fun D σ H => tb (wOnly K (.ref C) ts Wout D) D σ H) := by
  subst hK
  exact ps_try_only hs hf ⟨hg, hdb, .inl e.g⟩ tk hb hsu
/-- a call that may raise: what is wished at the caller's slots -/
def cCallE (sp : Sp) (W : WX) (t : TA) : TE := fun σ H Q => t σ H fun vs H1 => sp vs H1 Q fun c d H' => W c d σ H'
end R
namespace R
open PySem PySem.Spec PyProof.Rows L2
section
variable {X : Cx} {k j : Nat} {x m : Str} {ps : List Str} {sp : Sp} {W : WX} {p pos apos : Pos} {e o : Expr} {es : List Expr} {ta : TE} {t : TA} {C : Addr}
theorem mono_a {es : List Expr} {t : TA} (ha : PA X es t) : PA X es (fun σ H Q => ∃ Q0 : List V → Hp → Prop, (∀ v H', Q0 v H' → Q v H') ∧ t σ H Q0) := ⟨fun pos pins s σ H Q I q => by
  obtain ⟨Q0, w, z⟩ := q
  exact thn (ha.run pos pins s σ H Q0 I z) fun u s1 ⟨v, H1, I1, r, q1⟩ => ⟨v, H1, I1, r, w v H1 q1⟩⟩
/-- f(..), f may raise -/
theorem pe_fS (O : Ok X.prog X.w X.K X.mg X.base k x ps sp) (hr : Room k X.A) (tk : Takes X W) (ha : PA X (e :: es) t) (hg : Gl X x := by rfl)
    (hdb : (x == ("__debug__" : Str)) = false := by decide) (he : starEach (e :: es) X.env = (false, eval e X.env) :: starEach es X.env := by rfl) (hpl : (backTo pos (starEach es X.env)).any (·.1) = false := by rfl) :
    PE X (.Call (.Name x p) (e :: es) [] pos) (cCallE sp W t) := by
  obtain ⟨f, fd, h1, h2, h3, F⟩ := O.ex
  exact pe_callS F hr hg h1 h2 h3 (fun σ => passAt tk σ) ha hdb he hpl
/-- a class's def: at C found by the name m -/
structure MtAt (K : PySem.W.Frag) (C : Addr) (m qual : Str) (st : Stmt) (ps : List Str) : Prop where
  ex : ∃ f fd, Meth K C m f ∧ Fun K m qual st f fd ∧ Binds K fd ps []
structure OkM (P : Program) (w : World) (K : PySem.W.Frag) (mg : Str → Option Value) (base : Heap) (k : Nat) (C : Addr) (m : Str) (ps : List Str) (sp : Sp) : Prop where
  ex : ∃ f fd, Meth K C m f ∧ Binds K fd ps [] ∧ FnOk P w K mg base (L2.CX P w) k f fd ps sp
theorem okM {P : Program} {w : World} {K : PySem.W.Frag} {mg : Str → Option Value} {base : Heap} {m qual : Str} {st : Stmt} {N ps : List Str} {k : Nat} {sp : Sp} {C : Addr} (F : MtAt K C m qual st ps) (S : FnScope N ps (defScope st)) (len : ∀ vs H Q E, sp vs H Q E → vs.length = ps.length)
    (hbody : ∀ (f : Addr) (cdv : Value) (A : Around) (outer : List Env) (s : Shared) (H : Hp) (vs : List V) (Q : VK) (E : XK), Room k (A.deeper (envOfC qual (defScope st) s.heap.objs.size f cdv)) → sp vs H Q E →
      ∃ t, PSs (cxOf (L2.CX P w) P w K mg base N qual (defScope st) f cdv A outer s H (bE H E)) (defBody st) t ∧ t { nx := fun _ H' => bQ H Q .non H', rt := bQ H Q } (start N vs) H) : OkM P w K mg base (k + 1) C m ps sp := by
  obtain ⟨f, fd, h1, h2, h3⟩ := F.ex
  exact ⟨f, fd, h1, h3, okX h2 S len (hbody f)⟩
def cMeth (CS : Addr → Prop) (m : Str) (sp : Addr → Sp) (W : WX) (ta : TE) (t : TA) : TE := fun σ H Q => ta σ H fun x H1 => ∃ a C dx fs, x = .ref a ∧ H1 a = some (.ins C dx fs) ∧ CS C ∧ fs.lookup m = none ∧
  t σ H1 fun vs H2 => sp C (x :: vs) H2 Q fun c d H' => W c d σ H'
/-- o.m(..), of an instance of one of the classes CS -/
theorem pe_mS {CS : Addr → Prop} {sp : Addr → Sp} {pl : Sem Bool} (he : PE X o ta) (c : ∀ C, CS C → Cls X.K C) (O : ∀ C, CS C → OkM X.prog X.w X.K X.mg X.base k C m ps (sp C)) (hr : Room k X.A) (tk : Takes X W) (ha : PA X (e :: es) t)
    (hst : starEach (e :: es) X.env = (false, eval e X.env) :: starEach es X.env := by rfl) (hpl : (backTo pos (starEach es X.env)).any (·.1) = false := by rfl)
    (ht : eval (.Call (.Attribute o m apos) (e :: es) [] pos) X.env = (do
      let ov ← eval o X.env
      standAt apos.atName
      let (f, first) ← holding [ov] (getMethod ov m pl)
      callWith pos f first (backTo pos (starEach (e :: es) X.env)) (backToKw pos (keywordEach [] X.env))) := by rfl) :
    PE X (.Call (.Attribute o m apos) (e :: es) [] pos) (cMeth CS m sp W ta t) := by
  refine ⟨fun pins s σ H Q I h => ?_⟩
  refine PySem.W.methodCall_KW (pl := pl) (thn (he.run pins s σ H _ I h) fun u s1 ⟨x, H1, I1, rx, a, C, dx, fs, ex, ea, cs, l, q⟩ => ?_) ht
  subst ex
  obtain rfl : u = Value.ref a := rx
  obtain ⟨f, fd, hm, hb, F⟩ := (O C cs).ex
  refine getmeth_ok I1 ea (c C cs) hm l ?_
  refine PySem.W.callWith_K (first := [.ref a]) (h₀ := X.base) I.ok.mod.kin hm.kp (thn (ha.run pos pins s1 σ H1 _ I1 q) fun us s2 ⟨vs, H2, I2, r, q2⟩ => ⟨I2.kIn, ?_⟩) hst hpl
  exact run_fnS (us := .ref a :: us) (vs := .ref a :: vs) F hr hb (passAt tk σ) I2 (.cons rfl r) q2
theorem pe_mS0 {CS : Addr → Prop} {sp : Addr → Sp} {pl : Sem Bool} (he : PE X o ta) (c : ∀ C, CS C → Cls X.K C) (O : ∀ C, CS C → OkM X.prog X.w X.K X.mg X.base k C m ps (sp C)) (hr : Room k X.A) (tk : Takes X W)
    (ht : eval (.Call (.Attribute o m apos) [] [] pos) X.env = (do
      let ov ← eval o X.env
      standAt apos.atName
      let (f, first) ← holding [ov] (getMethod ov m pl)
      callWith pos f first (backTo pos (starEach [] X.env)) (backToKw pos (keywordEach [] X.env))) := by rfl) :
    PE X (.Call (.Attribute o m apos) [] [] pos) (cMeth CS m sp W ta tNil) := by
  refine ⟨fun pins s σ H Q I h => ?_⟩
  refine PySem.W.methodCall_KW (pl := pl) (thn (he.run pins s σ H _ I h) fun u s1 ⟨x, H1, I1, rx, a, C, dx, fs, ex, ea, cs, l, q⟩ => ?_) ht
  subst ex
  obtain rfl : u = Value.ref a := rx
  obtain ⟨f, fd, hm, hb, F⟩ := (O C cs).ex
  refine getmeth_ok I1 ea (c C cs) hm l ?_
  exact PySem.W.callWith_K0 (first := [.ref a]) I1.kIn hm.kp (run_fnS (us := [.ref a]) (vs := [.ref a]) F hr hb (passAt tk σ) I1 (.cons rfl .nil) q)
/-- a class that makes instances -/
structure MkAt (K : PySem.W.Frag) (mg : Str → Option Value) (x : Str) (C : Addr) (qual : Str) (st : Stmt) (ps : List Str) : Prop where
  ex : mg x = some (.ref C) ∧ ∃ f fd, Mk K C f ∧ Fun K "__init__" qual st f fd ∧ Binds K fd ps []
structure OkI (P : Program) (w : World) (K : PySem.W.Frag) (mg : Str → Option Value) (base : Heap) (k : Nat) (x : Str) (C : Addr) (ps : List Str) (sp : Sp) : Prop where
  ex : mg x = some (.ref C) ∧ ∃ f fd, Mk K C f ∧ Binds K fd ps [] ∧ FnOk P w K mg base (L2.CX P w) k f fd ps sp
theorem okI {P : Program} {w : World} {K : PySem.W.Frag} {mg : Str → Option Value} {base : Heap} {x qual : Str} {st : Stmt} {N ps : List Str} {k : Nat} {sp : Sp} {C : Addr} (F : MkAt K mg x C qual st ps) (S : FnScope N ps (defScope st)) (len : ∀ vs H Q E, sp vs H Q E → vs.length = ps.length)
    (hbody : ∀ (f : Addr) (cdv : Value) (A : Around) (outer : List Env) (s : Shared) (H : Hp) (vs : List V) (Q : VK) (E : XK), Room k (A.deeper (envOfC qual (defScope st) s.heap.objs.size f cdv)) → sp vs H Q E →
      ∃ t, PSs (cxOf (L2.CX P w) P w K mg base N qual (defScope st) f cdv A outer s H (bE H E)) (defBody st) t ∧ t { nx := fun _ H' => bQ H Q .non H', rt := bQ H Q } (start N vs) H) : OkI P w K mg base (k + 1) x C ps sp := by
  obtain ⟨g, f, fd, h1, h2, h3⟩ := F.ex
  exact ⟨g, f, fd, h1, h3, okX h2 S len (hbody f)⟩
/-- C(..) -/
def cMake (C : Addr) (sp : Sp) (W : WX) (t : TA) : TE := fun σ H Q => t σ H fun vs H1 => ∀ x dx, H1 x = none → H1 dx = none → dx ≠ x →
  sp (.ref x :: vs) (upd (upd H1 dx (.own x)) x (.ins C dx [])) (fun v H2 => v = .non ∧ Q (.ref x) H2) fun c d H' => W c d σ H'
theorem run_makeS {pins : List (Addr × Obj)} {σ : L2.St} {H : Hp} {s : Shared} {Q : VK} {us : List Value} {vs : List V} {f : Addr} {fd : FuncData} (M : Mk X.K C f) (F : FnOk X.prog X.w X.K X.mg X.base (L2.CX X.prog X.w) k f fd ps sp) (hr : Room (k + 1) X.A) (hb : Binds X.K fd ps []) (tk : Takes X W)
    (I : Inv X pins σ H s) (r : Vals vs us)
    (h : ∀ x dx, H x = none → H dx = none → dx ≠ x → sp (.ref x :: vs) (upd (upd H dx (.own x)) x (.ins C dx [])) (fun v H2 => v = .non ∧ Q (.ref x) H2) fun c d H' => W c d σ H') :
    wpAny (model X.prog X.w) X.A (call (.ref C) us) (EP X pins σ Q) X.xe s := by
  have hq := h (s.heap.objs.size + 1) s.heap.objs.size (I.hok.fresh (Nat.le_succ _)) (I.hok.fresh (Nat.le_refl _)) (Nat.ne_of_lt (Nat.lt_succ_self _))
  have I2 := Inv.made (C := C) I
  have r2 : Vals (V.ref (s.heap.objs.size + 1) :: vs) (Value.ref (s.heap.objs.size + 1) :: us) := .cons rfl r
  have hl : (Value.ref (s.heap.objs.size + 1) :: us).length = ps.length := by
    have e := r2.length
    rw [F.len _ _ _ _ hq] at e
    exact e.symm
  have b := hb _ (Value.ref (s.heap.objs.size + 1) :: us) I2.kIn (by rw [List.append_nil]; exact hl)
  rw [List.append_nil] at b
  refine wpAny_call (make_map (f := f) I.kIn M.makes M.init (beq_iff_eq.mp M.fn) (codeAny_mono (F.run _ X.stack _ _ ⟨Value.ref (s.heap.objs.size + 1) :: us, []⟩ (Value.ref (s.heap.objs.size + 1) :: us) _ _ _ (hr.make C us [])
    (I2.env0.make C us []) b r2 hq) fun r s' hq' => ?_))
  cases r with
  | error e => exact passAt tk σ pins _ _ e s' I2 hq'
  | ok fl =>
    cases fl with
    | ret u =>
      obtain ⟨v, H', I3, rv, ev, q3⟩ := I2.after hq'
      subst ev
      exact ⟨rv, ⟨V.ref (s.heap.objs.size + 1), H', I3, rfl, q3⟩⟩
    | next => exact False.elim hq'
    | brk => exact False.elim hq'
    | cont => exact False.elim hq'
theorem pe_mkS (O : OkI X.prog X.w X.K X.mg X.base k x C ps sp) (hr : Room (k + 1) X.A) (tk : Takes X W) (ha : PA X (e :: es) t) (hg : Gl X x := by rfl)
    (hdb : (x == ("__debug__" : Str)) = false := by decide) (he : starEach (e :: es) X.env = (false, eval e X.env) :: starEach es X.env := by rfl) (hpl : (backTo pos (starEach es X.env)).any (·.1) = false := by rfl) :
    PE X (.Call (.Name x p) (e :: es) [] pos) (cMake C sp W t) := by
  obtain ⟨g, f, fd, M, hb, F⟩ := O.ex
  refine ⟨fun pins s σ H Q I h => ?_⟩
  refine wpAny_Call_Name_kw (ld_glob I hg g ?_ hdb)
  refine PySem.W.callWith_K (h₀ := X.base) I.ok.mod.kin M.kp (thn (ha.run pos pins s σ H _ I h) fun us s1 ⟨vs, H1, I1, r, q⟩ => ⟨I1.kIn, ?_⟩) he hpl
  exact run_makeS M F hr hb tk I1 r q
theorem pe_mkS0 (O : OkI X.prog X.w X.K X.mg X.base k x C ps sp) (hr : Room (k + 1) X.A) (tk : Takes X W) (hg : Gl X x := by rfl)
    (hdb : (x == ("__debug__" : Str)) = false := by decide) : PE X (.Call (.Name x p) [] [] pos) (cMake C sp W tNil) := by
  obtain ⟨g, f, fd, M, hb, F⟩ := O.ex
  refine ⟨fun pins s σ H Q I h => ?_⟩
  refine wpAny_Call_Name_kw (ld_glob I hg g ?_ hdb)
  exact PySem.W.callWith_K0 I.kIn M.kp (run_makeS (us := []) M F hr hb tk I .nil h)
/-- what isinstance asks of an own class's instance -/
structure OwnC (K : PySem.W.Frag) (mg : Str → Option Value) (x : Str) (C : Addr) : Prop where
  g : mg x = some (.ref C)
  cl : Cls K C
  ha : PySem.W.findIn K (.ref C) "__class__" = some (some (.builtin "object.__class__"))
  hn : PySem.W.specialIn K (.builtin "object.__class__") "__get__" = some (some (.builtin "getset_descriptor.__get__"))
  ht : PySem.W.takesIn K (.builtin "object.__class__") = some true
  hm : PySem.W.mroIn K C (.type "object") = some true
theorem OwnC.ty {K : PySem.W.Frag} {mg : Str → Option Value} {x : Str} {C a dx : Addr} {H : Hp} {fs : List (Str × V)} (o : OwnC K mg x C) (h : H a = some (.ins C dx fs)) : TyX K H (.ref a) (.ref C) := .base (.ins h o.cl o.ha o.hn o.ht o.hm)
theorem Wf.ins {H : Hp} {a C dx : Addr} {fs gs : List (Str × V)} (w : Wf H) (h : H a = some (.ins C dx fs)) : Wf (upd H a (.ins C dx gs)) := fun b u e => by
  have hd : H dx = some (.own a) := by
    rcases w a _ h with f | ⟨C', dx', fs', e', hd⟩
    · exact f.elim
    · cases e'
      exact hd
  have nda : dx ≠ a := ne_of hd h (fun z => by cases z)
  by_cases hb : b = a
  · subst hb
    rw [upd_same] at e
    cases e
    exact .inr ⟨C, dx, gs, rfl, by rw [upd_ne nda]; exact hd⟩
  · rw [upd_ne hb] at e
    rcases w b u e with f | ⟨C', dx', fs', rfl, hd'⟩
    · exact .inl f
    · refine .inr ⟨C', dx', fs', rfl, ?_⟩
      have n : dx' ≠ a := ne_of hd' h (fun z => by cases z)
      rw [upd_ne n]
      exact hd'
/-- a new instance stands -/
theorem Wf.made {H : Hp} {x dx C : Addr} {fs : List (Str × V)} (w : Wf H) (nx : H x = none) (nd : H dx = none) (ne : dx ≠ x) : Wf (upd (upd H dx (.own x)) x (.ins C dx fs)) := fun b u e => by
  by_cases hb : b = x
  · subst hb
    rw [upd_same] at e
    cases e
    exact .inr ⟨C, dx, fs, rfl, by rw [upd_ne ne, upd_same]⟩
  · rw [upd_ne hb] at e
    by_cases hd : b = dx
    · subst hd
      rw [upd_same] at e
      cases e
      exact .inl trivial
    · rw [upd_ne hd] at e
      rcases w b u e with f | ⟨C', dx', fs', rfl, h⟩
      · exact .inl f
      · refine .inr ⟨C', dx', fs', rfl, ?_⟩
        rw [upd_ne (ne_of_none h nx), upd_ne (ne_of_none h nd)]
        exact h
end
end R
namespace R
open PySem PySem.Spec PyProof.Rows L2
theorem dpa5 {K : PySem.W.Frag} {H : Hp} {xs : List V} {ds : List PyData} (h : DpAll K H xs ds) (l : xs.length = 5) :
    ∃ x1 x2 x3 x4 x5 d1 d2 d3 d4 d5, xs = [x1, x2, x3, x4, x5] ∧ ds = [d1, d2, d3, d4, d5] ∧ Dp K H x1 d1 ∧ Dp K H x2 d2 ∧ Dp K H x3 d3 ∧ Dp K H x4 d4 ∧ Dp K H x5 d5 := by
  cases h with
  | nil => cases l
  | cons g1 h =>
    cases h with
    | nil => cases l
    | cons g2 h =>
      cases h with
      | nil => cases l
      | cons g3 h =>
        cases h with
        | nil => cases l
        | cons g4 h =>
          cases h with
          | nil => cases l
          | cons g5 h =>
            cases h with
            | nil => exact ⟨_, _, _, _, _, _, _, _, _, _, rfl, rfl, g1, g2, g3, g4, g5⟩
            | cons g6 h => simp at l
end R
namespace R
open PySem PySem.Spec PyProof.Rows L2
theorem hid_at {a b : Addr} {H : Hp} {o : HO} (n : b ≠ a) (h : H b = some o) : hid a H b = some o := by
  unfold hid
  rw [if_neg n]
  exact h
theorem exc_is {K : PySem.W.Frag} {mg : Str → Option Value} {x y : Str} {C D : Addr} {b : Bool} (e : Exc K mg x C) (s : PySem.W.subIn K (.ref C) (.ref C) = some true) (f : Exc K mg y D) (h : PySem.W.subIn K (.ref C) (.ref D) = some b) : PySem.W.kitOne K (.ref C) (.ref D) = some b :=
  exc_kit (x := x) f (fun z => by
    subst z
    rw [s] at h
    exact (Option.some.inj h).symm) h
theorem exc_ve {K : PySem.W.Frag} {mg : Str → Option Value} {x : Str} {C : Addr} (e : Exc K mg x C) : PySem.W.kitOne K (.ref C) (.type "ValueError") = some true := by
  unfold PySem.W.kitOne
  have n : ((Value.ref C) == Value.type "ValueError") = false := by simp
  rw [n]
  have m : PySem.W.kitMeta "ValueError" = true := by decide +kernel
  unfold PySem.W.kitCls
  simp only [m, if_true]
  simpa using e.v
theorem at_last {α : Type} {xs : List α} (h : xs ≠ []) : ∃ v, atI xs (-1) = some v ∧ v ∈ xs := by
  refine ⟨xs.getLast h, ?_, List.getLast_mem h⟩
  conv => lhs; rw [← List.dropLast_concat_getLast h]
  exact atI_last _ _
theorem cut_mem {xs : List V} {lo hi : Option Int} {v : V} (h : v ∈ cutV xs lo hi) : v ∈ xs := by
  unfold cutV at h
  exact List.mem_of_mem_drop (List.mem_of_mem_take h)
theorem cut_len {xs : List V} {lo hi : Option Int} : (cutV xs lo hi).length ≤ xs.length := by
  unfold cutV
  rw [List.length_take, List.length_drop]
  omega
end R
namespace R
open PySem PySem.Spec PyProof.Rows L2
theorem Dr.free {a p : Addr} {H H' : Hp} (x : Dr a H H') (n : H' p = none) : H p = none := by
  cases e : H p with
  | none => rfl
  | some o =>
    by_cases h : p = a
    · subst h
      obtain ⟨_, _, z, _⟩ := x.st
      rw [n] at z
      cases z
    · rw [x.kp p o h e] at n
      cases n
end R
namespace R
open PySem PySem.Spec PyProof.Rows L2
theorem tups_put {K : PySem.W.Frag} {H : Hp} {R : Addr} {xs : List V} {o : HO} (e : H R = some (.lst xs)) : ∀ p ys, SqT K H p ys → SqT K (upd H R o) p ys := fun p ys h => by
  rcases h with (h | ⟨z, h⟩) | h
  · exact .inl (.inl (by rw [upd_ne (ne_of h e (fun z => by cases z))]; exact h))
  · exact .inl (.inr ⟨z, by rw [upd_ne (ne_of h e (fun z => by cases z))]; exact h⟩)
  · exact .inr h
theorem same_put {H H' : Hp} {R : Addr} {o : HO} (s : Same H H') (n : H R = none) : Same H (upd H' R o) := fun b u e => by
  rw [upd_ne (ne_of_none e n)]
  exact s b u e
theorem st_put {H : Hp} {a R : Addr} {o : HO} (s : St2 H a) (n : R ≠ a) : St2 (upd H R o) a := by
  obtain ⟨p, q, e, h⟩ := s
  exact ⟨p, q, by rw [upd_ne n.symm]; exact e, h⟩
end R
namespace R
open PySem PySem.Spec PyProof.Rows L2
theorem pe_xc {X : Cx} {x : Str} {C : Addr} {pos : Pos} (e : Exc X.K X.mg x C) (hg : Gl X x := by rfl) (hd : (x == ("__debug__" : Str)) = false := by decide) : PE X (.Name x pos) (tC (.ref C)) := pe_glob hg e.g rfl hd
theorem pe_oc {X : Cx} {x : Str} {C : Addr} {pos : Pos} (e : OwnC X.K X.mg x C) (hg : Gl X x := by rfl) (hd : (x == ("__debug__" : Str)) = false := by decide) : PE X (.Name x pos) (tC (.ref C)) := pe_glob hg e.g rfl hd
theorem stL_ne {p q : Int} {xs : List V} : HO.tup xs ≠ stL p q := fun z => by cases z
theorem Dr.tups {K : PySem.W.Frag} {a : Addr} {H H' : Hp} (x : Dr a H H') (s : St2 H a) : ∀ p xs, SqT K H p xs → SqT K H' p xs := fun p xs h => by
  rcases h with (h | ⟨o, h⟩) | h
  · exact .inl (.inl (x.at h (fun _ _ => stL_ne) s))
  · refine .inl (.inr ⟨o, x.at h (fun _ _ z => by cases z) s⟩)
  · exact .inr h
theorem same_tups {K : PySem.W.Frag} {H H' : Hp} (x : Same H H') : ∀ p xs, SqT K H p xs → SqT K H' p xs := fun p xs h => sqt_keep (fun o e => x p o e) h
end R
namespace R
open PySem PySem.Spec PyProof.Rows L2
/-- two lists side by side -/
inductive Al2 {α β : Type} (P : α → β → Prop) : List α → List β → Prop where
  | nil : Al2 P [] []
  | cons {a b xs ys} : P a b → Al2 P xs ys → Al2 P (a :: xs) (b :: ys)
namespace Al2
variable {α β : Type} {P P' : α → β → Prop}
theorem len : ∀ {xs : List α} {ys : List β}, Al2 P xs ys → xs.length = ys.length
  | _, _, .nil => rfl
  | _, _, .cons _ h => by rw [List.length_cons, List.length_cons, len h]
theorem mono (f : ∀ a b, P a b → P' a b) : ∀ {xs : List α} {ys : List β}, Al2 P xs ys → Al2 P' xs ys
  | _, _, .nil => .nil
  | _, _, .cons p h => .cons (f _ _ p) (mono f h)
theorem snoc {a : α} {b : β} (p : P a b) : ∀ {xs : List α} {ys : List β}, Al2 P xs ys → Al2 P (xs ++ [a]) (ys ++ [b])
  | _, _, .nil => .cons p .nil
  | _, _, .cons q h => .cons q (snoc p h)
theorem app : ∀ {xs : List α} {ys : List β} {us : List α} {vs : List β}, Al2 P xs ys → Al2 P us vs → Al2 P (xs ++ us) (ys ++ vs)
  | _, _, _, _, .nil, g => g
  | _, _, _, _, .cons q h, g => .cons q (app h g)
theorem nth : ∀ {xs : List α} {ys : List β} {i : Nat} {a : α}, Al2 P xs ys → xs[i]? = some a → ∃ b, ys[i]? = some b ∧ P a b
  | _, _, _, _, .nil, e => by simp at e
  | _, _, 0, _, .cons p _, e => by
    simp at e
    subst e
    exact ⟨_, rfl, p⟩
  | _, _, _ + 1, _, .cons _ h, e => by
    simp at e
    obtain ⟨b, e2, p⟩ := nth h e
    exact ⟨b, by simpa using e2, p⟩
theorem mem {xs : List α} {ys : List β} {a : α} (h : Al2 P xs ys) (m : a ∈ xs) : ∃ b, b ∈ ys ∧ P a b := by
  obtain ⟨i, hi, rfl⟩ := List.getElem_of_mem m
  obtain ⟨b, e, p⟩ := h.nth (List.getElem?_eq_getElem hi)
  exact ⟨b, List.mem_of_getElem? e, p⟩
end Al2
/-- a place in a list, with what stands beside it -/
theorem Al2.at {β : Type} {P : V → β → Prop} {xs : List V} {ys : List β} {i : Int} (h : Al2 P xs ys) (h0 : 0 ≤ i) (h1 : i < xs.length) : ∃ v b, atI xs i = some v ∧ ys[i.toNat]? = some b ∧ P v b := by
  obtain ⟨j, rfl⟩ : ∃ j : Nat, i = j := ⟨i.toNat, by omega⟩
  have hj : j < xs.length := by omega
  obtain ⟨b, e, p⟩ := h.nth (List.getElem?_eq_getElem hj)
  exact ⟨xs[j], b, atI_nat (List.getElem?_eq_getElem hj), e, p⟩
end R
namespace R
theorem not_b {b : Bool} (h : (!b) = true) : b = false := by simpa using h
theorem not_b' {b : Bool} (h : (!b) = false) : b = true := by simpa using h
end R
namespace R
open PySem PySem.Spec PyProof.Rows L2
section
variable {X : Cx}
/-- in, of data of any depth -/
def rInDU (K : PySem.W.Frag) (n : Bool) : R2 := fun x y H Q => ∃ d ds, Dp K H x d ∧ (Dp K H y (.list ds) ∧ SeqAt.shaped (.list ds) = true ∨ Dp K H y (.tuple ds) ∧ SeqAt.shaped (.tuple ds) = true) ∧ SeqAt.shaped d = true ∧ Q (.bl (n != ds.any fun z => PyData.eqv z d)) H
theorem lay_tuple {ds : List PyData} (h : SeqAt.shaped (.tuple ds) = true) : PyData.canLayAll0 ds = true := by
  have := SeqAt.canLay_of_shaped h
  simpa [PyData.canLay0] using this
theorem roomU5 {k : Nat} {A : Around} (r : Room k A) : A.units + 65 < cLine := by have := r.un; omega
theorem opU_inD {K : PySem.W.Frag} {k : Nat} (r : Room k X.A) (hK : X.K = K := by rfl) : OpR X (compareOp .In) (rInDU K false) := by
  subst hK
  intro pins s σ H x y v u Q I rx ry h
  obtain ⟨d, ds, hd, he, sd, q⟩ := h
  have e : (false != ds.any fun z => PyData.eqv z d) = ds.any fun z => PyData.eqv z d := by simp
  rw [e] at q
  rcases he with ⟨he, se⟩ | ⟨he, se⟩
  · exact op_inD (roomU5 r) pins s σ H x y v u Q I rx ry ⟨d, ds, hd, he, sd, se, q⟩
  · obtain ⟨as, r1⟩ := Dp.reads I d x v hd rx
    obtain ⟨bs, r2⟩ := Dp.reads I (.tuple ds) y u he ry
    exact SeqAt.in_tuple_reads r2 r1 (lay_tuple se) (SeqAt.canLay_of_shaped sd) (room_in_shaped sd (roomU5 r)) ⟨.bl _, H, I, rfl, q⟩
theorem opU_notinD {K : PySem.W.Frag} {k : Nat} (r : Room k X.A) (hK : X.K = K := by rfl) : OpR X (compareOp .NotIn) (rInDU K true) := by
  subst hK
  intro pins s σ H x y v u Q I rx ry h
  obtain ⟨d, ds, hd, he, sd, q⟩ := h
  have e : (true != ds.any fun z => PyData.eqv z d) = !ds.any fun z => PyData.eqv z d := by simp
  rw [e] at q
  rcases he with ⟨he, se⟩ | ⟨he, se⟩
  · exact op_notInD (roomU5 r) pins s σ H x y v u Q I rx ry ⟨d, ds, hd, he, sd, se, q⟩
  · obtain ⟨as, r1⟩ := Dp.reads I d x v hd rx
    obtain ⟨bs, r2⟩ := Dp.reads I (.tuple ds) y u he ry
    exact SeqAt.notIn_tuple_reads r2 r1 (lay_tuple se) (SeqAt.canLay_of_shaped sd) (room_in_shaped sd (roomU5 r)) ⟨.bl _, H, I, rfl, q⟩
/-- text * number -/
def rMulS : R2 := fun x y H Q => match x, y with
  | .str z, .int n => MulOk z n ∧ Q (.str (Txt.mul z n)) H
  | _, _ => False
theorem opU_mulS : OpR X (binaryOp .Mult) rMulS := by
  intro pins s σ H x y v u Q I rx ry h
  unfold rMulS at h
  split at h
  · obtain ⟨t, rfl⟩ := rx
    obtain ⟨t', rfl⟩ := ry
    rename_i z n
    exact SB.mul h.1 fun t' k => ⟨.str (Txt.mul z n), H, I.tok _, ⟨_, rfl⟩, h.2⟩
  · exact h.elim
/-- t + u, t[i:j] of tuples, of any kind -/
def rAddA (K : PySem.W.Frag) : R2 := fun x y H Q => ∃ a b xs ys, x = .ref a ∧ y = .ref b ∧ SqT K H a xs ∧ SqT K H b ys ∧ xs.length + ys.length ≤ sizeLine ∧ ∀ p H', SqT K H' p (xs ++ ys) → Same H H' → (Wf H → Wf H') → Q (.ref p) H'
theorem opA_add {K : PySem.W.Frag} (hK : X.K = K := by rfl) : OpR X (binaryOp .Add) (rAddA K) := hK ▸ imp_o op_catA fun x y H Q q => by
  obtain ⟨a, b, xs, ys, rfl, rfl, ha, hb, hz, q⟩ := q
  refine ⟨a, b, xs, ys, rfl, rfl, ha, hb, hz, fun e => ?_, fun _ e => ?_, fun _ _ p np => ?_⟩
  · subst e
    exact q b H hb (Same.refl _) id
  · subst e
    refine q a H ?_ (Same.refl _) id
    rw [List.append_nil]
    exact ha
  · exact q p _ (.inl (.inl upd_same)) (same_new np) fun w => w.new trivial np
def rSlAU (K : PySem.W.Frag) : V → Option Int → Option Int → Hp → VK → Prop := fun x lo hi H Q => ∃ a xs, x = .ref a ∧ SqT K H a xs ∧ ∀ p H', SqT K H' p (cutV xs lo hi) → Same H H' → (Wf H → Wf H') → Q (.ref p) H'
theorem cutV_whole {xs : List V} {lo hi : Option Int} (h : HT.sIx xs.length 0 lo = 0 ∧ HT.sIx xs.length xs.length hi = xs.length) : cutV xs lo hi = xs := by
  unfold cutV
  rw [h.1, h.2, List.drop_zero, Nat.sub_zero, List.take_of_length_le (Nat.le_refl _)]
theorem slA {K : PySem.W.Frag} (hK : X.K = K := by rfl) : SlR X (rSlAU K) := by
  subst hK
  intro pins s σ H x v vl vu lo hi sl Q I rx hs pl pu h
  obtain ⟨a, xs, rfl, hx, q⟩ := h
  refine sl_tupA pins s σ H _ v vl vu lo hi sl Q I rx hs pl pu ⟨a, xs, rfl, hx, fun e => ?_, fun _ p np => ?_⟩
  · exact q a H (by rw [cutV_whole e]; exact hx) (Same.refl _) id
  · exact q p _ (.inl (.inl upd_same)) (same_new np) fun w => w.new trivial np
theorem pe_revK {K : PySem.W.Frag} {e : Expr} {te : TE} {k : Nat} {p1 p2 p3 pos : Pos} (he : PE X e te) (hK : X.K = K := by rfl) : PE X (.Subscript e (.Slice none none (some (.UnaryOp .USub (.Constant (.int 1) k p1) p2)) p3) pos) (tRevL K te) := hK ▸ pe_revL he
end
end R
namespace R
open PySem PySem.Spec PyProof.Rows L2
theorem ty_same {K : PySem.W.Frag} {H H' : Hp} {x : V} {t : Value} (s : Same H H') (h : TyX K H x t) : TyX K H' x t := by
  cases h with
  | base h =>
    cases h with
    | non => exact .base .non
    | bl b => exact .base (.bl b)
    | int i => exact .base (.int i)
    | str z => exact .base (.str z)
    | flt z => exact .base (.flt z)
    | lst e => exact .base (.lst (s _ _ e))
    | frz e => exact .base (.frz (s _ _ e))
    | tup e => exact .base (.tup (s _ _ e))
    | dK e => exact .base (.dK (s _ _ e))
    | dT e => exact .base (.dT (s _ _ e))
    | ins e cl ha hn htk hm => exact .base (.ins (s _ _ e) cl ha hn htk hm)
  | byt b => exact .byt b
  | set e => exact .set (s _ _ e)
  | kList e c => exact .kList e c
  | kTuple e c => exact .kTuple e c
  | kDict e c => exact .kDict e c
  | fTuple e => exact .fTuple (s _ _ e)
  | fDict e => exact .fDict (s _ _ e)
theorem isi_same {K : PySem.W.Frag} {H H' : Hp} {x : V} {n : String} {b : Bool} (s : Same H H') (h : IsiV K H x n b) : IsiV K H' x n b := by
  obtain ⟨t, h1, h2⟩ := h
  exact ⟨t, ty_same s h1, h2⟩
theorem kn_same {K : PySem.W.Frag} {H H' : Hp} {v : V} (s : Same H H') (h : Kn K H v) : Kn K H' v := by
  cases v with
  | non => trivial
  | bl _ => trivial
  | int _ => trivial
  | str _ => trivial
  | ref p =>
    rcases h with h | h | h
    · exact .inl (ty_same s h)
    · exact .inr (.inl (ty_same s h))
    · exact .inr (.inr (ty_same s h))
  | byt _ => exact h.elim
  | flt _ => exact h.elim
  | ty _ => exact h.elim
theorem cutS_len {z : Str} {lo hi : Option Int} : (cutS z lo hi).length ≤ z.length := by
  unfold cutS
  have e : z.length = z.cps.toList.length := (Array.length_toList).symm
  rw [e]
  show (Array.size _) ≤ _
  simp
  omega
/-- the signs of some words, one more for each -/
def mu (ws : List Str) : Nat := (ws.map fun w => w.length + 1).sum
theorem mu_nil : mu [] = 0 := rfl
theorem mu_cons (w : Str) (ws : List Str) : mu (w :: ws) = w.length + 1 + mu ws := rfl
theorem mu_app (ws us : List Str) : mu (ws ++ us) = mu ws + mu us := by
  induction ws with
  | nil => simp [mu_nil]
  | cons w r ih =>
    rw [List.cons_append, mu_cons, mu_cons, ih]
    omega
theorem mu_take (ws : List Str) (n : Nat) : mu (ws.take n) ≤ mu ws := by
  conv => rhs; rw [← List.take_append_drop n ws, mu_app]
  omega
theorem mu_drop (ws : List Str) (n : Nat) : mu (ws.drop n) ≤ mu ws := by
  conv => rhs; rw [← List.take_append_drop n ws, mu_app]
  omega
theorem mu_rev (ws : List Str) : mu ws.reverse = mu ws := by
  induction ws with
  | nil => rfl
  | cons w r ih =>
    rw [List.reverse_cons, mu_app, ih, mu_cons, mu_cons, mu_nil]
    omega
theorem mu_len (ws : List Str) : ws.length ≤ mu ws := by
  induction ws with
  | nil => exact Nat.zero_le _
  | cons w r ih =>
    rw [List.length_cons, mu_cons]
    omega
theorem mu_mem {ws : List Str} {w : Str} (h : w ∈ ws) : w.length + 1 ≤ mu ws := by
  induction ws with
  | nil => cases h
  | cons x r ih =>
    rw [mu_cons]
    rcases List.mem_cons.mp h with rfl | h
    · omega
    · have := ih h
      omega
theorem cut_strs (ws : List Str) (lo hi : Option Int) : ∃ us : List Str, cutV (ws.map V.str) lo hi = us.map V.str ∧ mu us ≤ mu ws ∧ ∀ w ∈ us, w ∈ ws := by
  refine ⟨(ws.drop (HT.sIx (ws.map V.str).length 0 lo)).take (HT.sIx (ws.map V.str).length (ws.map V.str).length hi - HT.sIx (ws.map V.str).length 0 lo), ?_, ?_, ?_⟩
  · unfold cutV
    rw [← List.map_drop, ← List.map_take]
  · exact Nat.le_trans (mu_take _ _) (mu_drop _ _)
  · intro w hw
    exact List.mem_of_mem_drop (List.mem_of_mem_take hw)
theorem mu_sum (ws : List Str) : mu ws = (ws.map (·.length)).sum + ws.length := by
  induction ws with
  | nil => rfl
  | cons w r ih =>
    rw [mu_cons, ih, List.map_cons, List.sum_cons, List.length_cons]
    omega
theorem Dr.same' {a : Addr} {H H' : Hp} (s : Same H H') (t : St2 H a) (w : Wf H') : Dr a H H' := by
  obtain ⟨p, q, e, h⟩ := t
  exact ⟨fun b o _ e => s b o e, ⟨p, q, s _ _ e, h⟩, w⟩
end R
namespace R
open PySem PySem.Spec PyProof.Rows L2
theorem opT_mul {X : Cx} {K : PySem.W.Frag} (hK : X.K = K := by rfl) : OpR X (binaryOp .Mult) (rRepT K) := hK ▸ op_repT
/-- the heap without what stands at F and at a -/
def G2 (F a : Addr) (H : Hp) : Hp := hid F (hid a H)
theorem G2.le {F a : Addr} {H : Hp} : Same (G2 F a H) H := fun b o e => by
  unfold G2 hid at e
  split at e
  · cases e
  · split at e
    · cases e
    · exact e
theorem G2.at {F a b : Addr} {H : Hp} {o : HO} (n : b ≠ F) (m : b ≠ a) (e : H b = some o) : G2 F a H b = some o := by
  unfold G2 hid
  rw [if_neg n, if_neg m]
  exact e
theorem G2.of {F a b : Addr} {H : Hp} {o : HO} (e : G2 F a H b = some o) : b ≠ F ∧ b ≠ a ∧ H b = some o := by
  unfold G2 hid at e
  split at e
  · cases e
  · rename_i n
    split at e
    · cases e
    · rename_i m
      exact ⟨n, m, e⟩
theorem G2.same {F a : Addr} {H H' : Hp} (s : Same H H') : Same (G2 F a H) (G2 F a H') := fun b o e => by
  obtain ⟨n, m, e⟩ := G2.of e
  exact G2.at n m (s _ _ e)
theorem G2.dr {F a : Addr} {H H' : Hp} (d : Dr a H H') : Same (G2 F a H) (G2 F a H') := fun b o e => by
  obtain ⟨n, m, e⟩ := G2.of e
  exact G2.at n m (d.kp _ _ m e)
theorem G2.put {F a : Addr} {H : Hp} {o : HO} : Same (G2 F a H) (G2 F a (upd H F o)) := fun b u e => by
  obtain ⟨n, m, e⟩ := G2.of e
  exact G2.at n m (by rw [upd_ne n]; exact e)
theorem G2.sqt {K : PySem.W.Frag} {F a : Addr} {H : Hp} {xs : List V} (hF : H F = some (.lst xs)) (s : St2 H a) : ∀ p ys, SqT K H p ys → SqT K (G2 F a H) p ys := fun p ys h => by
  obtain ⟨u, w, ha, _⟩ := s
  rcases h with (h | ⟨z, h⟩) | h
  · exact .inl (.inl (G2.at (ne_of h hF (fun z => by cases z)) (ne_of h ha (fun z => by cases z)) h))
  · exact .inl (.inr ⟨z, G2.at (ne_of h hF (fun z => by cases z)) (ne_of h ha (fun z => by cases z)) h⟩)
  · exact .inr h
theorem dpa_app {K : PySem.W.Frag} {H : Hp} : ∀ {xs : List V} {ds : List PyData} {ys : List V} {es : List PyData}, DpAll K H xs ds → DpAll K H ys es → DpAll K H (xs ++ ys) (ds ++ es)
  | _, _, _, _, .nil, g => g
  | _, _, _, _, .cons h r, g => .cons h (dpa_app r g)
theorem dpa_take {K : PySem.W.Frag} {H : Hp} : ∀ (n : Nat) {xs : List V} {ds : List PyData}, DpAll K H xs ds → DpAll K H (xs.take n) (ds.take n)
  | 0, _, _, _ => by
    rw [List.take_zero, List.take_zero]
    exact .nil
  | _ + 1, _, _, .nil => .nil
  | n + 1, _, _, .cons h r => .cons h (dpa_take n r)
theorem cut_ints (ws : List Int) (lo hi : Option Int) : ∃ us : List Int, cutV (ws.map V.int) lo hi = us.map V.int ∧ us.length ≤ ws.length := by
  refine ⟨(ws.drop (HT.sIx (ws.map V.int).length 0 lo)).take (HT.sIx (ws.map V.int).length (ws.map V.int).length hi - HT.sIx (ws.map V.int).length 0 lo), ?_, ?_⟩
  · unfold cutV
    rw [← List.map_drop, ← List.map_take]
  · rw [List.length_take, List.length_drop]
    omega
theorem cutV_to {xs : List V} {j : Int} (h : 0 ≤ j) : cutV xs none (some j) = xs.take j.toNat := by
  obtain ⟨n, rfl⟩ : ∃ n : Nat, j = n := ⟨j.toNat, by omega⟩
  unfold cutV
  rw [HT.sIx_nat, HT.sIx_none, List.drop_zero, Nat.sub_zero, Int.toNat_natCast]
  by_cases h : n ≤ xs.length
  · rw [Nat.min_eq_left h]
  · rw [Nat.min_eq_right (by omega), List.take_of_length_le (Nat.le_refl _), List.take_of_length_le (by omega)]
end R
namespace R
open PySem PySem.Spec PyProof.Rows L2
theorem roomU1 {k : Nat} {A : Around} (r : Room k A) : A.units + 1 < cLine := by have := r.un; omega
theorem mono_pc {X : Cx} {op : CmpOp} {a b : Expr} {t : TE} (h : PC X op a b t) : PC X op a b (fun σ H Q => ∃ Q0 : VK, (∀ v H', Q0 v H' → Q v H') ∧ t σ H Q0) := ⟨fun pins s σ H Q I q => by
  obtain ⟨Q0, w, z⟩ := q
  exact thn (h.run pins s σ H Q0 I z) fun v s1 x => thn x fun u s2 y => thn y fun r s3 ⟨v, H1, I1, r, q1⟩ => ⟨v, H1, I1, r, w v H1 q1⟩⟩
theorem pt_pcU {X : Cx} {op : CmpOp} {a b : Expr} {t : TE} {pos : Pos} (h : PC X op a b t) (h1 : behindInMarks op b = false) : PT X (.Compare a [op] [b] pos) (cTest t) :=
  imp_t (pt_cmp (mono_pc h) h1) fun σ H Q q => ⟨_, fun v H' z => testM v H' z, q⟩
/-- whole numbers kept by whole numbers -/
def kvI (es : List (Int × Int)) : List (Key × V) := es.map fun p => (Sum.inl p.1, V.int p.2)
def valI (es : List (Int × Int)) (k : Int) : Option Int := (es.find? fun p => decide (p.1 = k)).map (·.2)
def putI (es : List (Int × Int)) (k v : Int) : List (Int × Int) := if (es.any fun p => decide (p.1 = k)) = true then es.map (fun p => if p.1 = k then (p.1, v) else p) else es ++ [(k, v)]
def dropI (es : List (Int × Int)) (k : Int) : List (Int × Int) := es.filter fun p => decide (p.1 ≠ k)
theorem inl_dec (a k : Int) : decide ((Sum.inl a : Key) = Sum.inl k) = decide (a = k) := by
  by_cases h : a = k
  · subst h
    rw [decide_eq_true rfl, decide_eq_true rfl]
  · rw [decide_eq_false h, decide_eq_false (fun z => h (Sum.inl.inj z))]
theorem kvI_val (es : List (Int × Int)) (k : Int) : valV (kvI es) (Sum.inl k) = (valI es k).map V.int := by
  unfold valV kvI valI
  rw [List.find?_map]
  have : ((fun kv : Key × V => decide (kv.1 = Sum.inl k)) ∘ fun p : Int × Int => ((Sum.inl p.1 : Key), V.int p.2)) = fun p => decide (p.1 = k) := by
    funext p
    exact inl_dec _ _
  rw [this]
  cases es.find? fun p => decide (p.1 = k) <;> rfl
theorem kvI_put (es : List (Int × Int)) (k v : Int) : putK (kvI es) (Sum.inl k) (.int v) = kvI (putI es k v) := by
  unfold putK putI
  have e1 : ((kvI es).any fun kv => decide (kv.1 = Sum.inl k)) = es.any fun p => decide (p.1 = k) := by
    unfold kvI
    rw [List.any_map]
    congr 1
    funext p
    exact inl_dec _ _
  rw [e1]
  split
  · unfold kvI
    rw [List.map_map, List.map_map]
    apply List.map_congr_left
    intro p _
    show (if (Sum.inl p.1 : Key) = Sum.inl k then _ else _) = _
    by_cases h : p.1 = k
    · rw [if_pos (by rw [h])]
      show _ = ((fun p : Int × Int => ((Sum.inl p.1 : Key), V.int p.2)) (if p.1 = k then (p.1, v) else p))
      rw [if_pos h]
    · rw [if_neg (fun z => h (Sum.inl.inj z))]
      show _ = ((fun p : Int × Int => ((Sum.inl p.1 : Key), V.int p.2)) (if p.1 = k then (p.1, v) else p))
      rw [if_neg h]
  · unfold kvI
    rw [List.map_append]
    rfl
theorem kvI_drop (es : List (Int × Int)) (k : Int) : dropK (kvI es) (Sum.inl k) = kvI (dropI es k) := by
  unfold dropK dropI kvI
  rw [List.filter_map]
  congr 1
  apply List.filter_congr
  intro p _
  have e := inl_dec p.1 k
  simp only [Function.comp, ne_eq, decide_not]
  rw [e]
theorem kvI_len (es : List (Int × Int)) : (kvI es).length = es.length := List.length_map ..
end R
namespace R
open PySem PySem.Spec PyProof.Rows L2
/-- all stays but what is at x -/
def KX (x : Addr) (H H' : Hp) : Prop := ∀ b o, b ≠ x → H b = some o → H' b = some o
theorem kx_new {x p : Addr} {o : HO} {H H' : Hp} (n : H' p = none) (k : KX x H H') : KX x H (upd H' p o) := fun b u h e => same_new n _ _ (k b u h e)
theorem kx_put {x : Addr} {o : HO} {H H' : Hp} (k : KX x H H') : KX x H (upd H' x o) := fun b u h e => by
  rw [upd_ne h]
  exact k b u h e
theorem bQ.ins {H : Hp} {Q : VK} {v : V} (w : Wf H) (q : Q v H) : bQ H Q v H := bQ.same w (Same.refl _) q
end R
namespace R
open PySem PySem.Spec PyProof.Rows L2
section
variable {X : Cx} {e : Expr} {te : TE} {p apos cpos pos : Pos}
/-- list(e.values()) -/
def tListVals (te : TE) : TE := fun σ H Q => te σ H fun x H1 => ∃ d kvs, x = .ref d ∧ H1 d = some (.dK kvs) ∧ ∀ p, H1 p = none → Q (.ref p) (upd H1 p (.lst (kvs.map (·.2))))
theorem pe_listVals (hc : X.calm = true) (he : PE X e te) (hg : Gl X "list") (hm : X.mg "list" = none) (hv : bootBuiltins "list" = some (.type "list")) (hbase : attributeBase e "values" X.env (eval e X.env) = eval e X.env := by rfl) (hline : (apos.endLine == cpos.line) = true := by rfl)
    (hs : starEach [.Call (.Attribute e "values" apos) [] [] cpos] X.env = (false, eval (.Call (.Attribute e "values" apos) [] [] cpos) X.env) :: starEach [] X.env := by rfl) :
    PE X (.Call (.Name "list" p) [.Call (.Attribute e "values" apos) [] [] cpos] [] pos) (tListVals te) := by
  refine ⟨fun pins s σ H Q I hq => ?_⟩
  refine wpAny_Call_Name_kw (ld_blt I hg hm hv ?_)
  refine PyProof.Rows.callWith_type1 ?_ hs rfl
  rw [hs]
  show wpAny _ _ (spliced ((false, eval (.Call (.Attribute e "values" apos) [] [] cpos) X.env) :: backTo pos (starEach [] X.env))) _ _ s
  refine Calls.spliced_cons ?_
  refine wpAny_Call_method (T := "dict") (id := "dict.values") hbase rfl hline F.plainAttrs_dict F.slot_dict_values F.type_dict_values (thn (he.run pins s σ H _ I hq) fun u s1 ⟨x, H1, I1, rx, d, kvs, ex, hd, q⟩ => ?_)
  subst ex
  obtain rfl : u = Value.ref d := rx
  obtain ⟨hz, hs0, vs, kv, hdo⟩ := I1.hok d _ hd
  obtain ⟨ep, hat⟩ := hdo.dictAt
  have lk : kvs.length = vs.length := Paired.length kv
  have I2 : Inv X pins σ H1 { s1 with heap := s1.heap.push { cls := .type "dict_values", data := .fields #[.ref d] } } := I1.kept (t' := s1.toks) fun b ob q => Heap.get?_push_of_some _ q
  refine ⟨hdo.typeIs, hdo.mapOf.noDict, ?_⟩
  show wpAny _ _ (callWith cpos (.builtin "dict.values") [.ref d] [] []) _ X.xe s1
  refine method_meetsIn F.slot_dict_values F.entry_dict_values rfl (PySem.evalArgs_none ⟨rfl, hdo.typeIs, F.args_dict_values_1 _, _, meets_dict_values (mixKind X.prog X.w) d hs0, ⟨vs, hdo⟩, ?_⟩)
  refine Calls.spliced_nil ?_
  refine PySem.W.kdl_call (PySem.W.kdl_values (knd := mixKind X.prog X.w) (kvs := vs) (ep := ep)) (I1.ok.hd hc) ⟨⟨_, Heap.get?_push_size _ rfl, rfl, rfl⟩, hat.push _⟩ (by omega) fun h' tk acc' c' hk hS hacc => ?_
  refine ⟨.ref _, upd H1 _ (.lst (kvs.map (·.2))), I2.laid (t' := tk) hk (Nat.le_refl _) (show ObjOk X.prog X.w _ _ _ (.lst (kvs.map (·.2))) from ⟨?_, acc'.toList, c', ?_, ?_⟩), rfl, q _ (I2.hok.fresh (Nat.le_refl _))⟩
  · rw [List.length_map]; exact hz
  · have el : acc'.toList.length = acc'.size := by simp
    refine vals_of_at (by rw [List.length_map, el, hacc.1, lk]) fun j x w h1 h2 => ?_
    obtain ⟨k, hky⟩ := hacc.2 j w (by rw [← Array.getElem?_toList]; exact h2)
    obtain ⟨y, hy, r⟩ := KV.at' kv hky
    rw [List.getElem?_map, hy] at h1
    cases h1
    exact r
  · rw [Array.toArray_toList]; exact hS
/-- sorted(e.values()), whole numbers -/
def tSortedVals (te : TE) : TE := fun σ H Q => te σ H fun x H1 => ∃ d kvs is, x = .ref d ∧ H1 d = some (.dK kvs) ∧ kvs.map (·.2) = is.map V.int ∧ ∀ (ns : List Int) p, ns.Perm is → ns.Pairwise (· ≤ ·) → H1 p = none → Q (.ref p) (upd H1 p (.lst (ns.map V.int)))
theorem pe_sortedVals (hc : X.calm = true) (he : PE X e te) (hg : Gl X "sorted") (hm : X.mg "sorted" = none) (hbase : attributeBase e "values" X.env (eval e X.env) = eval e X.env := by rfl) (hline : (apos.endLine == cpos.line) = true := by rfl)
    (hse : starEach [Expr.Call (.Attribute e "values" apos) [] [] cpos] X.env = [(false, eval (Expr.Call (.Attribute e "values" apos) [] [] cpos) X.env)] := by rfl) :
    PE X (.Call (.Name "sorted" p) [.Call (.Attribute e "values" apos) [] [] cpos] [] pos) (tSortedVals te) := by
  refine ⟨fun pins s σ H Q I h => ?_⟩
  refine wpAny_Call_Name_kw (ld_blt I hg hm (u := .builtin "sorted") (by first | rfl | decide +kernel) ?_ (by first | decide +kernel | decide) (by first | decide +kernel | decide))
  rw [hse]
  refine PySem.callWith_builtin1 (wpAny_Call_method0_late hbase hline (thn (he.run pins s σ H _ I h) fun v s1 ⟨x, H1, I1, r1, a, kvs, is, ex, ha, hv, q⟩ => ?_))
  subst ex
  obtain rfl : v = Value.ref a := r1
  obtain ⟨hz, hsys, vs, rel, dof⟩ := dk_of I1.hok ha
  obtain ⟨ep, dat⟩ := dof.dictAt
  have dat' := dat
  obtain ⟨ob, es, ho, ex, hdat, hko, hpr, hnd⟩ := dat'
  refine ⟨"dict", "dict.values", F.plainAttrs_dict, F.slot_dict_values, F.type_dict_values, ⟨ob, ho, ex.1⟩, fun b e => ?_, Calls.callWith_builtin rfl (PySem.evalArgs_none ?_)⟩
  · cases e
    exact ⟨ob, ho, ex.2.1⟩
  refine call_meetsIn F.slot_dict_values ⟨ob, ho, ex.1⟩ F.entry_dict_values (F.args_dict_values_1 _) (meets_dict_values (mixKind X.prog X.w) a hsys) ⟨⟨vs, dof⟩, ?_⟩
  have k1 : ∀ b u, s1.heap.get? b = some u → (s1.heap.push { cls := .type "dict_values", data := .fields #[.ref a] }).get? b = some u := fun b u e => Heap.get?_push_of_some _ e
  have dat1 : (s1.heap.push { cls := .type "dict_values", data := .fields #[.ref a] }).DictAt (mixKind X.prog X.w) a vs ep := dat.keep k1
  have I2 : Inv X pins σ H1 { s1 with heap := s1.heap.push { cls := .type "dict_values", data := .fields #[.ref a] } } := I1.kept (t' := s1.toks) k1
  have lk : kvs.length = vs.length := Paired.length rel
  refine Calls.call_function_entry PyProof.Rows.kind_sorted PyProof.Rows.plain_sorted PyProof.Rows.entry_sorted (PyProof.Rows.args_sorted1 _) ?_
  unfold Builtin.«sorted»
  refine wpAny_bind (m := checkCount "sorted" 1 1 _) (wpAny_pure ?_)
  refine wpAny_bind (PySem.W.kdu_collect (A := X.A.in1) (PySem.W.kdl_values (knd := mixKind X.prog X.w) (kvs := vs) (ep := ep)) (I1.ok.hd hc) ⟨⟨_, Heap.get?_push_size _ rfl, rfl, rfl⟩, dat1⟩ (by omega) fun h' tk acc hk hacc => ?_)
  have lacc : acc.toList.length = kvs.length := by rw [Array.length_toList, lk]; exact hacc.1
  have hn : acc.toList.length ≤ sizeLine := by rw [lacc]; exact hz
  refine wpAny_bind (wpAny_newList ?_ hn)
  have rv : Vals (is.map V.int) acc.toList := by
    rw [← hv]
    refine vals_of_at (by rw [List.length_map, lacc]) fun j x w h1 h2 => ?_
    obtain ⟨k, hky⟩ := hacc.2 j w (by rw [← Array.getElem?_toList]; exact h2)
    obtain ⟨y, hy, r⟩ := KV.at' rel hky
    rw [List.getElem?_map, hy] at h1
    cases h1
    exact r
  have hi := rv.ints
  have hoL : (h'.push (seqObj "list" acc.toList.toArray 0)).get? h'.objs.size = some (seqObj "list" acc.toList.toArray 0) := Heap.get?_push_size _ rfl
  refine wpAny_bind (wpAny_holding (wpAny_call_entry PyProof.Rows.slot_list_sort ⟨_, hoL, rfl⟩ PyProof.Rows.entry_list_sort (SrtO.list_sort_ord SrtO.swo_int hoL hn (fun h2 => SrtO.ints_sortable hi h2) fun out h1 h2 => ⟨_, rfl, ?_⟩) (PyProof.Rows.args_list_sort _)))
  refine wpAny_pure ⟨_, rfl, ?_⟩
  obtain ⟨q1, q2, q3⟩ := SrtO.ints_out hi h1 h2
  obtain ⟨ep2, he'⟩ := PyProof.Rows.sortedHeap_at (vs := acc.toList) (out := out.toArray) hoL
  have hlen : ((out.map SrtO.iv).map V.int).length ≤ sizeLine := by
    rw [List.length_map, q2.length_eq, ← List.length_map (f := V.int), ← hv, List.length_map]
    exact hz
  have hsz : (s1.heap.push { cls := .type "dict_values", data := .fields #[.ref a] }).objs.size ≤ h'.objs.size := by
    have := Heap.lt_size (hk s1.heap.objs.size _ (Heap.get?_push_size _ rfl))
    rw [size_push']
    exact this
  refine ⟨.ref _, upd H1 h'.objs.size (.lst ((out.map SrtO.iv).map V.int)), I2.laid (t' := tk) (fun b u e => ?_) hsz ⟨hlen, out, ep2, vals_of_ints q1, he'⟩, rfl, q _ _ q2 q3 (I2.hok.fresh hsz)⟩
  have e2 := hk b u e
  rw [PyProof.Rows.sortedHeap_old (Nat.ne_of_lt (Heap.lt_size e2)) (by rw [size_push']; exact Nat.lt_succ_of_lt (Heap.lt_size e2))]
  exact Heap.get?_push_of_some _ e2
end
end R
namespace W
open PySem PySem.Spec PyProof.Rows L2 R
def topS (i : Nat) : Stmt := PySem.Challenge.pw_rowlent_k41_what_a_hand_keeps.main.body.getD i (.Pass ⟨0, 0, 0, 0⟩)

structure Ad where
  LentError : Addr
  NoMoment : Addr
  NoHand : Addr
  NoLoan : Addr
  NoApart : Addr
  Hand : Addr

structure Txt (K : PySem.W.Frag) (mg : Str → Option Value) (c : Ad) : Prop where
  m_all : mg "all" = none
  m_isinstance : mg "isinstance" = none
  m_str : mg "str" = none
  m_len : mg "len" = none
  m_int : mg "int" = none
  m_bool : mg "bool" = none
  m_max : mg "max" = none
  m_sorted : mg "sorted" = none
  m_range : mg "range" = none
  m_min : mg "min" = none
  g_MOST_LETTERS : GlV mg "MOST_LETTERS" (.int 8)
  g_LETTERS : GlV mg "LETTERS" (.str "abcdefghijklmnopqrstuvwxyz")
  g_MOST_APART : GlV mg "MOST_APART" (.int 1000000)
  x_LentError : Exc K mg "LentError" c.LentError
  x_NoMoment : Exc K mg "NoMoment" c.NoMoment
  x_NoHand : Exc K mg "NoHand" c.NoHand
  x_NoLoan : Exc K mg "NoLoan" c.NoLoan
  x_NoApart : Exc K mg "NoApart" c.NoApart
  u_NoLoan_LentError : PySem.W.subIn K (.ref c.NoLoan) (.ref c.LentError) = some true
  u_NoLoan_NoLoan : PySem.W.subIn K (.ref c.NoLoan) (.ref c.NoLoan) = some true
  u_NoLoan_NoMoment : PySem.W.subIn K (.ref c.NoLoan) (.ref c.NoMoment) = some false
  o_Hand : OwnC K mg "Hand" c.Hand
  i_Hand : MkAt K mg "Hand" c.Hand "Hand.__init__" (inClass (topS 15) 0) ["self", "name", "apart"]
  m_Hand_hears : MtAt K c.Hand "hears" "Hand.hears" (inClass (topS 15) 1) ["self", "loan", "end"]
  m_Hand_end_of : MtAt K c.Hand "end_of" "Hand.end_of" (inClass (topS 15) 2) ["self", "loan"]
  m_Hand_forgets : MtAt K c.Hand "forgets" "Hand.forgets" (inClass (topS 15) 3) ["self", "loan"]
  m_Hand_surely_out : MtAt K c.Hand "surely_out" "Hand.surely_out" (inClass (topS 15) 4) ["self", "clock", "loan"]
  m_Hand_surely_over : MtAt K c.Hand "surely_over" "Hand.surely_over" (inClass (topS 15) 5) ["self", "clock", "loan"]
  m_Hand_left : MtAt K c.Hand "left" "Hand.left" (inClass (topS 15) 6) ["self", "clock", "loan"]
  m_Hand_tells : MtAt K c.Hand "tells" "Hand.tells" (inClass (topS 15) 7) ["self", "clock"]
  m_Hand_soonest : MtAt K c.Hand "soonest" "Hand.soonest" (inClass (topS 15) 8) ["self"]
  n_Hand_name : NoAttr K c.Hand "name"
  n_Hand_apart : NoAttr K c.Hand "apart"
  n_Hand_kept : NoAttr K c.Hand "kept"
  f_is_name : FnAt K mg "is_name" "is_name" (topS 9) ["thing"]
  f_is_whole : FnAt K mg "is_whole" "is_whole" (topS 10) ["thing", "low", "high"]
  f_is_count : FnAt K mg "is_count" "is_count" (topS 11) ["thing"]
  f_sure_clock : FnAt K mg "sure_clock" "sure_clock" (topS 14) ["clock"]
  f__law_cell_at : FnAt K mg "_law_cell_at" "_law_cell_at" (topS 17) ["_law_script", "_law_k"]
  f__law_state : FnAt K mg "_law_state" "_law_state" (topS 18) ["_law_cell", "_law_k"]
  f__law_mixed : FnAt K mg "_law_mixed" "_law_mixed" (topS 19) ["_law_number"]
  f__law_digit : FnAt K mg "_law_digit" "_law_digit" (topS 20) ["_law_state_here", "_law_base"]
  f__law_name : FnAt K mg "_law_name" "_law_name" (topS 21) ["_law_state_here"]
  f__law_apart : FnAt K mg "_law_apart" "_law_apart" (topS 22) ["_law_state_here"]
  f__law_end : FnAt K mg "_law_end" "_law_end" (topS 23) ["_law_state_here", "_law_base"]
  f__law_loans : FnAt K mg "_law_loans" "_law_loans" (topS 24) ["_law_state_here"]
  f__law_answer : FnAt K mg "_law_answer" "_law_answer" (topS 25) ["_law_hand", "_law_word", "_law_clock", "_law_loan"]
  f__law_reckoned : FnAt K mg "_law_reckoned" "_law_reckoned" (topS 26) ["_law_kept", "_law_apart_here", "_law_word", "_law_clock", "_law_loan"]
  f__law_clocks : FnAt K mg "_law_clocks" "_law_clocks" (topS 27) ["_law_state_here", "_law_kept", "_law_apart_here", "_law_base"]
  f__law_hand_right : FnAt K mg "_law_hand_right" "_law_hand_right" (topS 28) ["_law_state_here", "_law_hand", "_law_kept", "_law_apart_here", "_law_loans_here", "_law_base"]
  f__law_forgotten : FnAt K mg "_law_forgotten" "_law_forgotten" (topS 29) ["_law_hand", "_law_kept", "_law_loan"]

def cs_Hand (c : Ad) (C : Addr) : Prop := C = c.Hand
theorem okc_Hand {K : PySem.W.Frag} {mg : Str → Option Value} {c : Ad} (T : Txt K mg c) : ∀ C, cs_Hand c C → Cls K C := fun C h => by
  have e : C = c.Hand := h
  subst e
  exact T.o_Hand.cl

abbrev lets : List Nat := ("abcdefghijklmnopqrstuvwxyz" : Str).cps.toList
def isNameB : V → Bool
  | .str z => decide (1 ≤ (z.length : Int)) && decide ((z.length : Int) ≤ 8) && z.cps.toList.all fun c => decide (c ∈ lets)
  | _ => false
def isWholeB : V → Int → Int → Bool
  | .int n, a, b => decide (a ≤ n) && decide (n ≤ b)
  | _, _, _ => false
def Short (v : V) : Prop := ∀ z, v = .str z → z.length ≤ 1000000 ∧ sOk z

abbrev s_is_name : Stmt := topS 9
abbrev N_is_name : List Str := ["thing", "sign"]
theorem sc_is_name : FnScope N_is_name ["thing"] (defScope s_is_name) := ⟨rfl, rfl, rfl, by decide +kernel, rfl, by decide +kernel, by decide +kernel⟩
def sp_is_name (K : PySem.W.Frag) (c : Ad) : Sp := fun vs H Q E => arg1 (fun v => Kn K H v ∧ Short v ∧ Wf H ∧ Q (.bl (isNameB v)) H) vs
theorem ok_is_name {P : Program} {w : World} {K : PySem.W.Frag} {mg : Str → Option Value} {base : Heap} {c : Ad} (T : Txt K mg c) : Ok P w K mg base 1 "is_name" ["thing"] (sp_is_name K c) := by
  refine okF T.f_is_name sc_is_name (fun vs H Q E h => ?_) (fun f cdv A outer sh H vs Q E hr h => ?_)
  · obtain ⟨v, rfl, h⟩ := arg1.ex h
    rfl
  · obtain ⟨v, rfl, h⟩ := arg1.ex h
    have tk : Takes (cxOf (L2.CX P w) P w K mg base N_is_name "is_name" (defScope s_is_name) f cdv A outer sh H (bE H E)) (fun cls d _ H' => bE H E cls d H') := takes_of rfl rfl rfl rfl
    refine ⟨_, pss_cons (ps_if (PW.pt (pw_or (pt_not (pt_truthU (K := K) (pe_callB (callU_isi (K := K)) (by rfl) T.m_isinstance (by decide +kernel) (pa_cons (lv 0) (pa_cons (pe_ty "str" T.m_str) pa_nil))) (by intro _; rfl))) (pw_or1 (pt_not (pt_chainU opU_le opU_le pe_int (pe_callB (callU_len (K := K)) (by rfl) T.m_len (by decide +kernel) (pa_cons (lv 0) pa_nil)) (pe_g T.g_MOST_LETTERS))))))
      (pss_one (ps_ret pe_bl)) pss_nil)
      (pss_one (ps_ret (pe_callB (callU_all (K := K) rfl) (by rfl) T.m_all (by decide +kernel) (pa_cons (pe_lc (own := [("sign", 1)]) (g := gName 1) rfl sc_is_name.nd (pi_str (lv 0)) (blkOk_by (own := [("sign", 1)]) (N := N_is_name) (sc := defScope s_is_name) (by decide +kernel)) (fun _ _ _ _ _ => pg_name (i := 1) sc_is_name.nd rfl (.inl rfl)) (fun _ _ _ _ _ => pts_nil) (fun _ _ _ _ _ => pe_cmpR (opU_in (K := K)) (lv 1) (pe_g T.g_LETTERS) (by rfl))) pa_nil)))), ?_⟩
    obtain ⟨hk, hz, wf, k⟩ := h
    refine ⟨_, isk_str hk, ?_⟩
    cases v with
    | str z =>
      refine ⟨line_of (Nat.le_trans ((hz z rfl).1) (by decide)), ?_⟩
      refine iteC (p := 1 ≤ (z.length : Int)) (fun h1 => ?_) (fun h1 => ?_)
      · refine iteB (fun h2' => ?_) (fun h2' => ?_)
        · have h2 := nd_t h2'
          refine bQ.same wf (Same.refl _) ?_
          have e2 : isNameB (.str z) = false := by
            show (decide (1 ≤ (z.length : Int)) && decide ((z.length : Int) ≤ 8) && _) = _
            rw [decide_eq_false h2, Bool.and_false, Bool.false_and]
          rw [← e2]
          exact k
        · have h2 := nd_f h2'
          refine ⟨z, rfl, fun D nD => ?_⟩
          refine lc_map (walk_str (z := z)) (fun i x => ∃ c, z.cps[i]? = some c ∧ x = .str ⟨#[c]⟩) (fun i H x H' h => h) (fun i => .bl (decide (z.cps.toList.getD i 0 ∈ lets))) (line_lt (Nat.lt_of_le_of_lt ((hz z rfl).1) (by decide))) (fun _ => trivial) (fun i x acc C hi hx hC => ?_) ?_
          · obtain ⟨c, hc, rfl⟩ := hx
            have e : z.cps.toList.getD i 0 = c := by simp [hc]
            rw [e] at hC
            refine ⟨rfl, c, rfl, ?_⟩
            simpa using hC
          · refine ⟨(List.range z.cps.size).map fun i => decide (z.cps.toList.getD i 0 ∈ lets), .inl (.inl ?_), ?_⟩
            · rw [upd_same, List.map_map]
              rfl
            · refine bQ.same wf (same_new nD) ?_
              have e : ((List.range z.cps.size).map fun i => decide (z.cps.toList.getD i 0 ∈ lets)) = z.cps.toList.map fun c => decide (c ∈ lets) := by
                rw [← R.range_getD z.cps.toList 0 fun c => decide (c ∈ lets)]
                rfl
              rw [e]
              have e2 : isNameB (.str z) = (z.cps.toList.map fun c => decide (c ∈ lets)).all id := by
                show (decide (1 ≤ (z.length : Int)) && decide ((z.length : Int) ≤ 8) && _) = _
                rw [decide_eq_true h1, decide_eq_true h2, List.all_map]
                rfl
              rw [e2] at k
              exact k
      · refine bQ.same wf (Same.refl _) ?_
        have e2 : isNameB (.str z) = false := by
          show (decide (1 ≤ (z.length : Int)) && decide ((z.length : Int) ≤ 8) && _) = _
          rw [decide_eq_false h1, Bool.false_and, Bool.false_and]
        rw [← e2]
        exact k
    | non => exact bQ.same wf (Same.refl _) k
    | bl b => exact bQ.same wf (Same.refl _) k
    | int n => exact bQ.same wf (Same.refl _) k
    | ref p => exact bQ.same wf (Same.refl _) k
    | byt b => exact hk.elim
    | flt b => exact hk.elim
    | ty b => exact hk.elim

abbrev s_is_whole : Stmt := topS 10
abbrev N_is_whole : List Str := ["thing", "low", "high"]
theorem sc_is_whole : FnScope N_is_whole ["thing", "low", "high"] (defScope s_is_whole) := ⟨rfl, rfl, rfl, by decide +kernel, rfl, by decide +kernel, by decide +kernel⟩
def sp_is_whole (K : PySem.W.Frag) (c : Ad) : Sp := fun vs H Q E => arg3 (fun v lo hi => ∃ a b, lo = .int a ∧ hi = .int b ∧ Kn K H v ∧ Wf H ∧ Q (.bl (isWholeB v a b)) H) vs
theorem ok_is_whole {P : Program} {w : World} {K : PySem.W.Frag} {mg : Str → Option Value} {base : Heap} {c : Ad} (T : Txt K mg c) : Ok P w K mg base 1 "is_whole" ["thing", "low", "high"] (sp_is_whole K c) := by
  refine okF T.f_is_whole sc_is_whole (fun vs H Q E h => ?_) (fun f cdv A outer sh H vs Q E hr h => ?_)
  · obtain ⟨v, lo, hi, rfl, h⟩ := arg3.ex h
    rfl
  · obtain ⟨v, lo, hi, rfl, h⟩ := arg3.ex h
    have tk : Takes (cxOf (L2.CX P w) P w K mg base N_is_whole "is_whole" (defScope s_is_whole) f cdv A outer sh H (bE H E)) (fun cls d _ H' => bE H E cls d H') := takes_of rfl rfl rfl rfl
    refine ⟨_, pss_one (ps_ret (pe_andU (K := K) (pe_callB (callU_isi (K := K)) (by rfl) T.m_isinstance (by decide +kernel) (pa_cons (lv 0) (pa_cons (pe_ty "int" T.m_int) pa_nil))) (pe_andU (K := K) (pe_notU (K := K) (pe_callB (callU_isi (K := K)) (by rfl) T.m_isinstance (by decide +kernel) (pa_cons (lv 0) (pa_cons (pe_ty "bool" T.m_bool) pa_nil)))) (pe_one (pe_chainU opU_le opU_le (lv 1) (lv 0) (lv 2)))))), ?_⟩
    obtain ⟨a, b, rfl, rfl, hk, wf, k⟩ := h
    refine ⟨_, isk_int hk, ?_⟩
    cases v with
    | int n =>
      refine ⟨_, isk_bool hk, ?_⟩
      refine iteC (fun h1 => ?_) (fun h1 => ?_)
      · refine bQ.same wf (Same.refl _) ?_
        have e : isWholeB (.int n) a b = decide (n ≤ b) := by
          show (decide (a ≤ n) && decide (n ≤ b)) = _
          rw [decide_eq_true h1, Bool.true_and]
        rw [← e]
        exact k
      · refine bQ.same wf (Same.refl _) ?_
        have e : isWholeB (.int n) a b = false := by
          show (decide (a ≤ n) && decide (n ≤ b)) = _
          rw [decide_eq_false h1, Bool.false_and]
        rw [← e]
        exact k
    | bl c =>
      refine ⟨_, isk_bool hk, ?_⟩
      exact bQ.same wf (Same.refl _) k
    | str z => exact bQ.same wf (Same.refl _) k
    | non => exact bQ.same wf (Same.refl _) k
    | ref p => exact bQ.same wf (Same.refl _) k
    | byt b => exact hk.elim
    | flt b => exact hk.elim
    | ty b => exact hk.elim

def ScrL (K : PySem.W.Frag) (H : Hp) (v : V) (ns : List Int) : Prop := ∃ a, v = .ref a ∧ SqL K H a (ns.map V.int) ∧ ns.length ≤ 63
theorem mixed_b {r m : Int} (h : 0 < m) : 0 ≤ r % m ∧ r % m < m := ⟨Int.emod_nonneg _ (by omega), Int.emod_lt_of_pos _ h⟩
theorem mul_b {x y : Int} {a b : Nat} (hx0 : 0 ≤ x) (hx : x < 2 ^ a) (hy0 : 0 ≤ y) (hy : y < 2 ^ b) (h0 : 0 < a) (h1 : 0 < b) (h : a + b ≤ 1000000) : CMulW x y := by
  have e1 : (2 : Int) ^ a = ((2 ^ a : Nat) : Int) := by simp
  have e2 : (2 : Int) ^ b = ((2 ^ b : Nat) : Int) := by simp
  refine wide_mul (a := a) (b := b) ?_ ?_ h0 h1 h
  · omega
  · omega
theorem div_b {x j : Int} {b : Nat} (h : 0 < j) (hb : j.natAbs < 2 ^ b) (h0 : 0 < b) (h9 : b ≤ 9000) : CDivW x j := wide_div h hb h0 h9
/-- small enough for a digit -/
def Bas (b : Int) : Prop := 0 < b ∧ b.natAbs.log2 < 9000
theorem bas_lt {b : Int} (h : 0 < b) (h2 : b < 2 ^ 200) : Bas b := ⟨h, by
  have e : b.natAbs < 2 ^ 200 := by omega
  exact Nat.lt_trans (PySem.Flt.log2_lt_of (by decide) e) (by decide)⟩
theorem log_le {x y : Nat} (h : x ≤ y) : x.log2 ≤ y.log2 := by
  by_cases hx : x = 0
  · subst hx; simp
  · exact (Nat.le_log2 (by omega)).2 (Nat.le_trans (Nat.log2_self_le hx) h)

abbrev s__law_cell_at : Stmt := topS 17
abbrev N__law_cell_at : List Str := ["_law_script", "_law_k"]
theorem sc__law_cell_at : FnScope N__law_cell_at ["_law_script", "_law_k"] (defScope s__law_cell_at) := ⟨rfl, rfl, rfl, by decide +kernel, rfl, by decide +kernel, by decide +kernel⟩
def sp__law_cell_at (K : PySem.W.Frag) (c : Ad) : Sp := fun vs H Q E => arg2 (fun s k => ∃ ns j, ScrL K H s ns ∧ k = .int j ∧ 0 ≤ j ∧ Wf H ∧ ∀ n, Q (.int n) H) vs
theorem ok__law_cell_at {P : Program} {w : World} {K : PySem.W.Frag} {mg : Str → Option Value} {base : Heap} {c : Ad} (T : Txt K mg c) : Ok P w K mg base 1 "_law_cell_at" ["_law_script", "_law_k"] (sp__law_cell_at K c) := by
  refine okF T.f__law_cell_at sc__law_cell_at (fun vs H Q E h => ?_) (fun f cdv A outer sh H vs Q E hr h => ?_)
  · obtain ⟨s, k, rfl, h⟩ := arg2.ex h
    rfl
  · obtain ⟨s, k, rfl, h⟩ := arg2.ex h
    have tk : Takes (cxOf (L2.CX P w) P w K mg base N__law_cell_at "_law_cell_at" (defScope s__law_cell_at) f cdv A outer sh H (bE H E)) (fun cls d _ H' => bE H E cls d H') := takes_of rfl rfl rfl rfl
    refine ⟨_, pss_cons (ps_if (pt_cmpU opU_lt (lv 1) (pe_callB (callU_len (K := K)) (by rfl) T.m_len (by decide +kernel) (pa_cons (lv 0) pa_nil)) (nomark _))
      (pss_one (ps_ret (pe_ix (ixU (K := K)) (lv 0) (lv 1) (fun _ _ => rfl)))) pss_nil)
      (pss_one (ps_ret pe_int)), ?_⟩
    obtain ⟨ns, j, ⟨a, rfl, hS, hl⟩, rfl, hj, wf, k⟩ := h
    refine .inl ⟨_, .inl hS, ?_⟩
    refine iteC (fun h1 => ?_) (fun h1 => ?_)
    · obtain ⟨v, hv, hm⟩ := at_lt hj h1
      obtain ⟨n, _, rfl⟩ := List.mem_map.mp hm
      exact ⟨_, _, .inl hS, hv, bQ.same wf (Same.refl _) (k n)⟩
    · exact bQ.same wf (Same.refl _) (k 0)

abbrev s__law_state : Stmt := topS 18
abbrev N__law_state : List Str := ["_law_cell", "_law_k"]
theorem sc__law_state : FnScope N__law_state ["_law_cell", "_law_k"] (defScope s__law_state) := ⟨rfl, rfl, rfl, by decide +kernel, rfl, by decide +kernel, by decide +kernel⟩
def sp__law_state (K : PySem.W.Frag) (c : Ad) : Sp := fun vs H Q E => arg2 (fun c k => ∃ n j, c = .int n ∧ k = .int j ∧ 0 ≤ j ∧ j < 100 ∧ Wf H ∧ ∀ p q a, H a = none → 0 ≤ p → Q (.ref a) (upd H a (stL p q))) vs
theorem ok__law_state {P : Program} {w : World} {K : PySem.W.Frag} {mg : Str → Option Value} {base : Heap} {c : Ad} (T : Txt K mg c) : Ok P w K mg base 1 "_law_state" ["_law_cell", "_law_k"] (sp__law_state K c) := by
  refine okF T.f__law_state sc__law_state (fun vs H Q E h => ?_) (fun f cdv A outer sh H vs Q E hr h => ?_)
  · obtain ⟨c, k, rfl, h⟩ := arg2.ex h
    rfl
  · obtain ⟨c, k, rfl, h⟩ := arg2.ex h
    have tk : Takes (cxOf (L2.CX P w) P w K mg base N__law_state "_law_state" (defScope s__law_state) f cdv A outer sh H (bE H E)) (fun cls d _ H' => bE H E cls d H') := takes_of rfl rfl rfl rfl
    refine ⟨_, pss_one (ps_ret (pe_lst (pa_cons (pe_op opU_mul (lv 0) (pe_callTy callU_int (by rfl) T.m_int (by decide +kernel) (pa_cons (pe_cmpR opU_ge (lv 0) (pe_op opU_pow pe_int pe_int) (nomark _)) pa_nil))) (pa_cons (pe_op (opU_add (K := K)) (pe_op opU_mod (lv 0) pe_int) (pe_op opU_mul pe_int (lv 1))) pa_nil)))), ?_⟩
    obtain ⟨n, j, rfl, rfl, h0, h1, wf, k⟩ := h
    refine ⟨⟨by decide, by decide, by decide⟩, ?_⟩
    refine ⟨.inl (.inr (by split <;> exact ⟨by decide, by decide⟩)), ?_⟩
    refine ⟨by decide, ?_⟩
    refine ⟨.inl (.inl ⟨by decide, by decide⟩), ?_⟩
    refine ⟨line_of (show 2 ≤ 16777216 by decide), fun a na => bQ.mk (wf.new trivial na) (k _ _ a na ?_)⟩
    split
    · rename_i e
      have e2 := of_decide_eq_true e
      have e3 : (10 : Int) ^ Int.toNat 18 = 1000000000000000000 := by decide
      omega
    · omega

abbrev s__law_mixed : Stmt := topS 19
abbrev N__law_mixed : List Str := ["_law_number"]
theorem sc__law_mixed : FnScope N__law_mixed ["_law_number"] (defScope s__law_mixed) := ⟨rfl, rfl, rfl, by decide +kernel, rfl, by decide +kernel, by decide +kernel⟩
def sp__law_mixed (K : PySem.W.Frag) (c : Ad) : Sp := fun vs H Q E => arg1 (fun x => ∃ n, x = .int n ∧ Wf H ∧ ∀ r, 0 ≤ r → Q (.int r) H) vs
theorem ok__law_mixed {P : Program} {w : World} {K : PySem.W.Frag} {mg : Str → Option Value} {base : Heap} {c : Ad} (T : Txt K mg c) : Ok P w K mg base 1 "_law_mixed" ["_law_number"] (sp__law_mixed K c) := by
  refine okF T.f__law_mixed sc__law_mixed (fun vs H Q E h => ?_) (fun f cdv A outer sh H vs Q E hr h => ?_)
  · obtain ⟨x, rfl, h⟩ := arg1.ex h
    rfl
  · obtain ⟨x, rfl, h⟩ := arg1.ex h
    have tk : Takes (cxOf (L2.CX P w) P w K mg base N__law_mixed "_law_mixed" (defScope s__law_mixed) f cdv A outer sh H (bE H E)) (fun cls d _ H' => bE H E cls d H') := takes_of rfl rfl rfl rfl
    refine ⟨_, pss_cons (ps_set (i := 0) sc__law_mixed.nd rfl (.inl rfl) (pe_op opU_mod (pe_op opU_mul (pe_op (opU_add (K := K)) (pe_op opU_mod (lv 0) pe_int) pe_int) pe_int) pe_int))
      (pss_cons (ps_set (i := 0) sc__law_mixed.nd rfl (.inl rfl) (pe_op opU_mod (pe_op opU_mul (lv 0) (pe_op (opU_add (K := K)) (pe_op opU_div (lv 0) pe_int) pe_int)) pe_int))
      (pss_one (ps_ret (pe_op opU_mod (pe_op opU_mul (pe_op (opU_add (K := K)) (lv 0) pe_int) (pe_op (opU_add (K := K)) (pe_op opU_div (lv 0) pe_int) pe_int)) pe_int)))), ?_⟩
    obtain ⟨n, rfl, wf, k⟩ := h
    have b1 := @mixed_b n 2147483647 (by decide)
    refine ⟨by decide, ?_⟩
    refine ⟨.inr <| mul_b (a := 32) (b := 16) (by omega) (by omega) (by decide) (by decide) (by decide) (by decide) (by decide), ?_⟩
    refine ⟨by decide, ?_⟩
    generalize hx : (n % 2147483647 + 1) * 48271 % 2147483647 = x
    have b2 : 0 ≤ x ∧ x < 2147483647 := by rw [← hx]; exact mixed_b (by decide)
    refine ⟨div_b (b := 10) (by decide) (by decide) (by decide) (by decide), ?_⟩
    refine ⟨.inr <| mul_b (a := 31) (b := 32) (by omega) (by omega) (by omega) (by omega) (by decide) (by decide) (by decide), ?_⟩
    refine ⟨by decide, ?_⟩
    generalize hy : x * (x / 1009 + 69621) % 2147483647 = y
    have b3 : 0 ≤ y ∧ y < 2147483647 := by rw [← hy]; exact mixed_b (by decide)
    refine ⟨div_b (b := 10) (by decide) (by decide) (by decide) (by decide), ?_⟩
    refine ⟨.inr <| mul_b (a := 32) (b := 32) (by omega) (by omega) (by omega) (by omega) (by decide) (by decide) (by decide), ?_⟩
    refine ⟨by decide, ?_⟩
    exact bQ.same wf (Same.refl _) (k _ (mixed_b (by decide)).1)

abbrev s__law_digit : Stmt := topS 20
abbrev N__law_digit : List Str := ["_law_state_here", "_law_base", "_law_found"]
theorem sc__law_digit : FnScope N__law_digit ["_law_state_here", "_law_base"] (defScope s__law_digit) := ⟨rfl, rfl, rfl, by decide +kernel, rfl, by decide +kernel, by decide +kernel⟩
def sp__law_digit (K : PySem.W.Frag) (c : Ad) : Sp := fun vs H Q E => arg2 (fun s b => ∃ a m, s = .ref a ∧ b = .int m ∧ St2 H a ∧ Bas m ∧ Wf H ∧ ∀ r p q, 0 ≤ r → r < m → 0 ≤ p → Q (.int r) (upd H a (stL p q))) vs
theorem ok__law_digit {P : Program} {w : World} {K : PySem.W.Frag} {mg : Str → Option Value} {base : Heap} {c : Ad} (T : Txt K mg c) : Ok P w K mg base 2 "_law_digit" ["_law_state_here", "_law_base"] (sp__law_digit K c) := by
  refine okF T.f__law_digit sc__law_digit (fun vs H Q E h => ?_) (fun f cdv A outer sh H vs Q E hr h => ?_)
  · obtain ⟨s, b, rfl, h⟩ := arg2.ex h
    rfl
  · obtain ⟨s, b, rfl, h⟩ := arg2.ex h
    have tk : Takes (cxOf (L2.CX P w) P w K mg base N__law_digit "_law_digit" (defScope s__law_digit) f cdv A outer sh H (bE H E)) (fun cls d _ H' => bE H E cls d H') := takes_of rfl rfl rfl rfl
    refine ⟨_, pss_cons (ps_if (pt_cmpU opU_gt (pe_ix (ixU (K := K)) (lv 0) pe_int (fun _ _ => rfl)) pe_int (nomark _))
      (pss_cons (ps_set (i := 2) sc__law_digit.nd rfl (.inl rfl) (pe_op opU_mod (pe_ix (ixU (K := K)) (lv 0) pe_int (fun _ _ => rfl)) (lv 1)))
      (pss_cons (ps_asg (pe_op opU_div (pe_ix (ixU (K := K)) (lv 0) pe_int (fun _ _ => rfl)) (lv 1)) (pg_sub (lv 0) pe_int setU))
      (pss_one (ps_ret (lv 2))))) pss_nil)
      (pss_cons (ps_asg (pe_f (ok__law_mixed (K := K) T) hr passL (pa_cons (pe_op (opU_add (K := K)) (pe_ix (ixU (K := K)) (lv 0) pe_int (fun _ _ => rfl)) pe_int) pa_nil)) (pg_sub (lv 0) pe_int setU))
      (pss_one (ps_ret (pe_op opU_mod (pe_op opU_div (pe_ix (ixU (K := K)) (lv 0) pe_int (fun _ _ => rfl)) pe_int) (lv 1))))), ?_⟩
    obtain ⟨a, m, rfl, rfl, ⟨p, q, e, hp⟩, ⟨hm, hb⟩, wf, k⟩ := h
    have s1 : ∀ {H : Hp} {p q : Int}, H a = some (stL p q) → SqL K H a [.int p, .int q] := fun h => .inl (.inl h)
    have g0 : ∀ {p q : Int}, atI [V.int p, V.int q] 0 = some (.int p) := fun {p q} => rfl
    have g1 : ∀ {p q : Int}, atI [V.int p, V.int q] 1 = some (.int q) := fun {p q} => rfl
    refine ⟨_, _, .inl (s1 e), g0, ?_⟩
    refine iteC (fun h1 => ?_) (fun h1 => ?_)
    · refine ⟨_, _, .inl (s1 e), g0, hm, ?_⟩
      refine ⟨_, _, .inl (s1 e), g0, ⟨hm, hb⟩, ?_⟩
      refine ⟨_, 0, e, rfl, ?_⟩
      exact bQ.mk (wf.at trivial e fun x z => by cases z) (k _ _ _ (mixed_b hm).1 (mixed_b hm).2 (Int.ediv_nonneg hp (by omega)))
    · refine ⟨_, _, .inl (s1 e), g1, ?_⟩
      refine ⟨_, rfl, wf, fun r hr => ?_⟩
      refine ⟨_, 1, e, rfl, ?_⟩
      have e1 : (upd H a (stL p r)) a = some (stL p r) := upd_same
      refine ⟨_, _, .inl (s1 e1), g1, div_b (b := 8) (by decide) (by decide) (by decide) (by decide), hm, ?_⟩
      exact bQ.mk (wf.at trivial e fun x z => by cases z) (k _ _ _ (mixed_b hm).1 (mixed_b hm).2 hp)

def isCountB : V → Bool | .int n => decide (0 ≤ n) | _ => false
def isWholeD : PyData → Int → Int → Bool
  | .int n, a, b => decide (a ≤ n) && decide (n ≤ b)
  | _, _, _ => false
theorem whole_dp {K : PySem.W.Frag} {H : Hp} {v : V} {d : PyData} (h : Dp K H v d) (a b : Int) : isWholeB v a b = isWholeD d a b := by cases h <;> rfl
def arePausesD : PyData → Bool
  | .tuple ds => decide ((ds.length : Int) ≤ 10) && ds.all fun d => isWholeD d 0 1000000
  | _ => false
def isOrderD : PyData → Bool
  | .str z => inV (.str z) [.str "put", .str "turns"]
  | _ => false
def isRuleD : PyData → Bool
  | .tuple [a, b, c, e, f] => isOrderD a && (isWholeD b 1 20 && isWholeD c 1 1000000) && (arePausesD e && isWholeD f 0 200)
  | _ => false
theorem all_whole {K : PySem.W.Frag} {H : Hp} : ∀ {xs : List V} {ds : List PyData}, DpAll K H xs ds → ∀ a b : Int, (xs.map fun x => isWholeB x a b) = ds.map fun d => isWholeD d a b
  | _, _, .nil, _, _ => rfl
  | _, _, .cons h r, a, b => by rw [List.map_cons, List.map_cons, whole_dp h, all_whole r]
theorem rule_len {ds : List PyData} (h : ds.length ≠ 5) : isRuleD (.tuple ds) = false := by
  match ds, h with
  | [], _ => rfl
  | [_], _ => rfl
  | [_, _], _ => rfl
  | [_, _, _], _ => rfl
  | [_, _, _, _], _ => rfl
  | [_, _, _, _, _], h => exact absurd rfl h
  | _ :: _ :: _ :: _ :: _ :: _ :: _, _ => rfl

abbrev s_is_count : Stmt := topS 11
abbrev N_is_count : List Str := ["thing"]
theorem sc_is_count : FnScope N_is_count ["thing"] (defScope s_is_count) := ⟨rfl, rfl, rfl, by decide +kernel, rfl, by decide +kernel, by decide +kernel⟩
def sp_is_count (K : PySem.W.Frag) (c : Ad) : Sp := fun vs H Q E => arg1 (fun v => Kn K H v ∧ Wf H ∧ Q (.bl (isCountB v)) H) vs
theorem ok_is_count {P : Program} {w : World} {K : PySem.W.Frag} {mg : Str → Option Value} {base : Heap} {c : Ad} (T : Txt K mg c) : Ok P w K mg base 1 "is_count" ["thing"] (sp_is_count K c) := by
  refine okF T.f_is_count sc_is_count (fun vs H Q E h => ?_) (fun f cdv A outer sh H vs Q E hr h => ?_)
  · obtain ⟨v, rfl, h⟩ := arg1.ex h
    rfl
  · obtain ⟨v, rfl, h⟩ := arg1.ex h
    have tk : Takes (cxOf (L2.CX P w) P w K mg base N_is_count "is_count" (defScope s_is_count) f cdv A outer sh H (bE H E)) (fun cls d _ H' => bE H E cls d H') := takes_of rfl rfl rfl rfl
    refine ⟨_, pss_one (ps_ret (pe_andU (K := K) (pe_callB (callU_isi (K := K)) (by rfl) T.m_isinstance (by decide +kernel) (pa_cons (lv 0) (pa_cons (pe_ty "int" T.m_int) pa_nil))) (pe_andU (K := K) (pe_notU (K := K) (pe_callB (callU_isi (K := K)) (by rfl) T.m_isinstance (by decide +kernel) (pa_cons (lv 0) (pa_cons (pe_ty "bool" T.m_bool) pa_nil)))) (pe_one (pe_cmpR opU_ge (lv 0) pe_int (nomark _)))))), ?_⟩
    obtain ⟨hk, wf, k⟩ := h
    refine ⟨_, isk_int hk, ?_⟩
    cases v with
    | int n => exact ⟨_, isk_bool hk, bQ.same wf (Same.refl _) k⟩
    | bl n => exact ⟨_, isk_bool hk, bQ.same wf (Same.refl _) k⟩
    | str z => exact bQ.same wf (Same.refl _) k
    | non => exact bQ.same wf (Same.refl _) k
    | ref p => exact bQ.same wf (Same.refl _) k
    | byt b => exact hk.elim
    | flt b => exact hk.elim
    | ty b => exact hk.elim

theorem lets_ok : ∀ c ∈ lets, c < 0x110000 := by decide +kernel
/-- a name -/
def NameS (z : Str) : Prop := isNameB (.str z) = true ∧ sOk z
theorem NameS.len {z : Str} (h : NameS z) : 1 ≤ z.length ∧ z.length ≤ 8 := by
  have q : (decide (1 ≤ (z.length : Int)) && decide ((z.length : Int) ≤ 8) && z.cps.toList.all fun c => decide (c ∈ lets)) = true := h.1
  rw [Bool.and_eq_true, Bool.and_eq_true, decide_eq_true_eq, decide_eq_true_eq] at q
  omega
theorem NameS.of {cs : List Nat} (h1 : 1 ≤ cs.length) (h8 : cs.length ≤ 8) (h : ∀ c ∈ cs, c ∈ lets) : NameS ⟨cs.toArray⟩ := by
  refine ⟨?_, sOk_list fun c hc => lets_ok c (h c hc)⟩
  have e : (⟨cs.toArray⟩ : Str).length = cs.length := List.size_toArray ..
  show (decide (1 ≤ (((⟨cs.toArray⟩ : Str).length : Nat) : Int)) && decide ((((⟨cs.toArray⟩ : Str).length : Nat) : Int) ≤ 8) && cs.all fun c => decide (c ∈ lets)) = true
  rw [e, decide_eq_true (by omega), decide_eq_true (by omega), Bool.true_and, Bool.true_and, List.all_eq_true]
  intro c hc
  exact decide_eq_true (h c hc)

abbrev s__law_name : Stmt := topS 21
abbrev N__law_name : List Str := ["_law_state_here", "_law_letters", "_law_k"]
theorem sc__law_name : FnScope N__law_name ["_law_state_here"] (defScope s__law_name) := ⟨rfl, rfl, rfl, by decide +kernel, rfl, by decide +kernel, by decide +kernel⟩
def sp__law_name (K : PySem.W.Frag) (c : Ad) : Sp := fun vs H Q E => arg1 (fun s => ∃ a, s = .ref a ∧ St2 H a ∧ Wf H ∧ ∀ z p q, NameS z → 0 ≤ p → Q (.str z) (upd H a (stL p q))) vs
theorem ok__law_name {P : Program} {w : World} {K : PySem.W.Frag} {mg : Str → Option Value} {base : Heap} {c : Ad} (T : Txt K mg c) : Ok P w K mg base 3 "_law_name" ["_law_state_here"] (sp__law_name K c) := by
  refine okF T.f__law_name sc__law_name (fun vs H Q E h => ?_) (fun f cdv A outer sh H vs Q E hr h => ?_)
  · obtain ⟨s, rfl, h⟩ := arg1.ex h
    rfl
  · obtain ⟨s, rfl, h⟩ := arg1.ex h
    have tk : Takes (cxOf (L2.CX P w) P w K mg base N__law_name "_law_name" (defScope s__law_name) f cdv A outer sh H (bE H E)) (fun cls d _ H' => bE H E cls d H') := takes_of rfl rfl rfl rfl
    refine ⟨_, pss_cons (ps_set (i := 1) sc__law_name.nd rfl (.inr rfl) pe_str)
      (pss_one (ps_ret (pe_join pe_str (pe_lc (own := [("_law_k", 2)]) (g := gName 2) rfl sc__law_name.nd (pi_range1 (by rfl) T.m_range (pa_cons (pe_op (opU_add (K := K)) pe_int (pe_f (ok__law_digit (K := K) T) hr passL (pa_cons (lv 0) (pa_cons pe_int pa_nil)))) pa_nil)) (blkOk_by (own := [("_law_k", 2)]) (N := N__law_name) (sc := defScope s__law_name) (by decide +kernel)) (fun _ _ _ _ _ => pg_name (i := 2) sc__law_name.nd rfl (.inl rfl)) (fun _ _ _ _ _ => pts_nil) (fun _ _ _ _ _ => pe_ix (ixU (K := K)) (lv 1) (pe_f (ok__law_digit (K := K) T) hr passL (pa_cons (lv 0) (pa_cons pe_int pa_nil))) (fun _ _ => rfl)))))), ?_⟩
    obtain ⟨a, rfl, s0, wf, k⟩ := h
    have d0 := Dr.refl s0 wf
    refine ⟨⟨_, rfl⟩, ?_⟩
    refine ⟨a, 8, rfl, rfl, s0, bas_lt (by decide) (by decide), wf, fun r2 p2 q2 g2 l2 n2 => ?_⟩
    have d2 := d0.drawn (q := q2) n2
    generalize upd H a (stL p2 q2) = H2 at d2 ⊢
    refine ⟨_, rfl, by omega, by omega, fun D nD => ?_⟩
    have nDa : D ≠ a := fun e => by
      obtain ⟨_, _, e1, _⟩ := d2.st
      rw [← e, nD] at e1
      cases e1
    refine lc_range (lo := 0) (n := (1 + r2).toNat) (fun i H' => ∃ cs : List Nat, Dr a H2 H' ∧ H' D = some (.lst (cs.map fun c => V.str ⟨#[c]⟩)) ∧ cs.length = i ∧ ∀ c ∈ cs, c ∈ lets) ⟨[], (Dr.refl d2.st d2.wf).new nD trivial, upd_same, rfl, by simp⟩ (fun i H' hi hp => ?_) (fun H' hp => ?_)
    · obtain ⟨cs, d, eD, hl, hcs⟩ := hp
      refine ⟨rfl, ?_⟩
      refine ⟨a, 26, rfl, rfl, d.st, bas_lt (by decide) (by decide), d.wf, fun r p q g l n => ?_⟩
      obtain ⟨c, hc, hcm⟩ := at_lt (xs := lets) g (by exact l)
      refine ⟨line_of (show 26 ≤ 16777216 by decide), c, hc, _, (upd_ne nDa).trans eD, line_lt ?_, cs ++ [c], ?_, ?_, ?_, ?_⟩
      · rw [List.length_map]
        omega
      · exact (d.drawn (q := q) n).put nD ((upd_ne nDa).trans eD) (fun _ z => by cases z) trivial nDa
      · rw [upd_same, List.map_append]
        rfl
      · rw [List.length_append, hl]
        rfl
      · intro x hx
        rcases List.mem_append.mp hx with h | h
        · exact hcs x h
        · rw [List.mem_singleton.mp h]
          exact hcm
    · obtain ⟨cs, d, eD, hl, hcs⟩ := hp
      have d3 := d2.trans d
      refine ⟨_, D, cs.map fun c => ⟨#[c]⟩, rfl, rfl, .inl (.inl (.inl ?_)), ?_, ?_⟩
      · rw [eD, List.map_map]
        rfl
      · have e1 : ((cs.map fun c => (⟨#[c]⟩ : Str)).map (·.length)).sum = cs.length := by
          clear eD hl hcs
          induction cs with
          | nil => rfl
          | cons c r ih =>
            rw [List.map_cons, List.map_cons, List.sum_cons, ih, List.length_cons]
            exact Nat.add_comm 1 _
        rw [e1, List.length_map]
        show cs.length + cs.length * 0 ≤ 16777216
        omega
      · have e2 : Txt.join (PySem.Str.ofString "") (cs.map fun c => (⟨#[c]⟩ : Str)) = ⟨cs.toArray⟩ := join_ones cs
        rw [e2]
        exact d3.done wf s0 fun p q h0 => k _ p q (NameS.of (by omega) (by omega) hcs) h0

def fsH (nm : Str) (ap : Int) (dk : Addr) : List (Str × V) := [("name", .str nm), ("apart", .int ap), ("kept", .ref dk)]
/-- a hand stands at x -/
def HandAt (C : Addr) (H : Hp) (x : Addr) (nm : Str) (ap : Int) (es : List (Int × Int)) : Prop := ∃ dx dk, H x = some (.ins C dx (fsH nm ap dk)) ∧ H dk = some (.dK (kvI es))
theorem HandAt.keep {C : Addr} {H H' : Hp} {x : Addr} {nm : Str} {ap : Int} {es : List (Int × Int)} (h : HandAt C H x nm ap es) (s : Same H H') : HandAt C H' x nm ap es := by
  obtain ⟨dx, dk, h1, h2⟩ := h
  exact ⟨dx, dk, s _ _ h1, s _ _ h2⟩
theorem count_ok {n : Int} (h : 0 ≤ n) : isCountB (.int n) = true := decide_eq_true h

abbrev s_sure_clock : Stmt := topS 14
abbrev N_sure_clock : List Str := ["clock"]
theorem sc_sure_clock : FnScope N_sure_clock ["clock"] (defScope s_sure_clock) := ⟨rfl, rfl, rfl, by decide +kernel, rfl, by decide +kernel, by decide +kernel⟩
def sp_sure_clock (K : PySem.W.Frag) (c : Ad) : Sp := fun vs H Q E => arg1 (fun v => Kn K H v ∧ Wf H ∧ (isCountB v = true → Q .non H) ∧ (isCountB v = false → E (.ref c.NoMoment) none H)) vs
theorem ok_sure_clock {P : Program} {w : World} {K : PySem.W.Frag} {mg : Str → Option Value} {base : Heap} {c : Ad} (T : Txt K mg c) : Ok P w K mg base 3 "sure_clock" ["clock"] (sp_sure_clock K c) := by
  refine okF T.f_sure_clock sc_sure_clock (fun vs H Q E h => ?_) (fun f cdv A outer sh H vs Q E hr h => ?_)
  · obtain ⟨v, rfl, h⟩ := arg1.ex h
    rfl
  · obtain ⟨v, rfl, h⟩ := arg1.ex h
    have tk : Takes (cxOf (L2.CX P w) P w K mg base N_sure_clock "sure_clock" (defScope s_sure_clock) f cdv A outer sh H (bE H E)) (fun cls d _ H' => bE H E cls d H') := takes_of rfl rfl rfl rfl
    refine ⟨_, pss_one (ps_if (pt_not (pt_truthU (K := K) (pe_f (ok_is_count (K := K) T) (hr.mono (by decide)) passL (pa_cons (lv 0) pa_nil)) (by intro _; rfl)))
      (pss_one (ps_rai T.x_NoMoment tk)) pss_nil), ?_⟩
    obtain ⟨hk, wf, k, kE⟩ := h
    refine ⟨hk, wf, ?_⟩
    refine iteB (c := !isCountB v) (fun g => ?_) (fun g => ?_)
    · exact bE.same wf (Same.refl _) (kE (not_b g))
    · exact bQ.same wf (Same.refl _) (k (not_b' g))

abbrev s_Hand___init__ : Stmt := inClass (topS 15) 0
abbrev N_Hand___init__ : List Str := ["self", "name", "apart"]
theorem sc_Hand___init__ : FnScope N_Hand___init__ ["self", "name", "apart"] (defScope s_Hand___init__) := ⟨rfl, rfl, rfl, by decide +kernel, rfl, by decide +kernel, by decide +kernel⟩
def cr_Hand___init__ (c : Ad) (C : Addr) : Prop := C = c.Hand
def sp_Hand___init__ (K : PySem.W.Frag) (c : Ad) (C : Addr) : Sp := fun vs H Q E => arg3 (fun s v u => ∃ x dx, s = .ref x ∧ C = c.Hand ∧ H x = some (.ins C dx []) ∧ Wf H ∧ ((∃ nm ap, v = .str nm ∧ u = .int ap ∧ NameS nm ∧ 0 ≤ ap ∧ ap ≤ 1000000 ∧ ∀ dk H', H dk = none → H' x = some (.ins C dx (fsH nm ap dk)) → H' dk = some (.dK []) → KX x H H' → Wf H' → Q .non H') ∨ (Kn K H v ∧ Short v ∧ isNameB v = false ∧ E (.ref c.NoHand) none H) ∨ (∃ nm, v = .str nm ∧ NameS nm ∧ Kn K H u ∧ isWholeB u 0 1000000 = false ∧ E (.ref c.NoApart) none H))) vs
theorem ok_Hand___init__ {P : Program} {w : World} {K : PySem.W.Frag} {mg : Str → Option Value} {base : Heap} {c : Ad} (T : Txt K mg c) {x : Str} {C : Addr} (hx : x = "Hand" ∧ C = c.Hand) : OkI P w K mg base 3 x C ["self", "name", "apart"] (sp_Hand___init__ K c C) := by
  have F : MkAt K mg x C "Hand.__init__" s_Hand___init__ ["self", "name", "apart"] ∧ cr_Hand___init__ c C := by
    rcases hx with ⟨rfl, rfl⟩
    · exact ⟨T.i_Hand, rfl⟩
  obtain ⟨F, hC⟩ := F
  have cl : Cls K C := by
    rcases hC with rfl
    · exact T.o_Hand.cl
  have n_name : NoAttr K C "name" := by
    rcases hC with rfl
    · exact T.n_Hand_name
  have n_apart : NoAttr K C "apart" := by
    rcases hC with rfl
    · exact T.n_Hand_apart
  have n_kept : NoAttr K C "kept" := by
    rcases hC with rfl
    · exact T.n_Hand_kept
  refine okI F sc_Hand___init__ (fun vs H Q E h => ?_) (fun f cdv A outer sh H vs Q E hr h => ?_)
  · obtain ⟨s, v, u, rfl, h⟩ := arg3.ex h
    rfl
  · obtain ⟨s, v, u, rfl, h⟩ := arg3.ex h
    have tk : Takes (cxOf (L2.CX P w) P w K mg base N_Hand___init__ "Hand.__init__" (defScope s_Hand___init__) f cdv A outer sh H (bE H E)) (fun cls d _ H' => bE H E cls d H') := takes_of rfl rfl rfl rfl
    refine ⟨_, pss_cons (ps_if (pt_not (pt_truthU (K := K) (pe_f (ok_is_name (K := K) T) (hr.mono (by decide)) passL (pa_cons (lv 1) pa_nil)) (by intro _; rfl)))
      (pss_one (ps_rai T.x_NoHand tk)) pss_nil)
      (pss_cons (ps_if (pt_not (pt_truthU (K := K) (pe_f (ok_is_whole (K := K) T) (hr.mono (by decide)) passL (pa_cons (lv 2) (pa_cons pe_int (pa_cons (pe_g T.g_MOST_APART) pa_nil)))) (by intro _; rfl)))
      (pss_one (ps_rai T.x_NoApart tk)) pss_nil)
      (pss_cons (ps_fld (lv 0) (lv 1) rfl)
      (pss_cons (ps_fld (lv 0) (lv 2) rfl)
      (pss_one (ps_fld (lv 0) pe_dnewK rfl))))), ?_⟩
    obtain ⟨x, dx, rfl, eC, hx, wf, h⟩ := h
    rcases h with ⟨nm, ap, rfl, rfl, sn, a0, a1, k⟩ | ⟨hk, hs, hn, k⟩ | ⟨nm, rfl, sn, hk, hw, k⟩
    · refine ⟨trivial, fun z e => by cases e; exact ⟨by have := sn.len; omega, sn.2⟩, wf, ?_⟩
      rw [sn.1]
      refine ⟨0, 1000000, rfl, rfl, trivial, wf, ?_⟩
      have ew : isWholeB (.int ap) 0 1000000 = true := by
        show (decide (0 ≤ ap) && decide (ap ≤ 1000000)) = true
        rw [decide_eq_true a0, decide_eq_true a1]
        rfl
      rw [ew]
      subst eC
      refine ⟨x, c.Hand, dx, _, rfl, hx, T.o_Hand.cl, T.n_Hand_name, by simp, ?_⟩
      refine ⟨x, c.Hand, dx, _, rfl, upd_same, T.o_Hand.cl, T.n_Hand_apart, by simp [putF], ?_⟩
      rw [upd_upd]
      intro dk ndk
      have w1 := wf.ins (gs := putF "apart" (.int ap) (putF "name" (.str nm) [])) hx
      have k1 := kx_put (o := .ins c.Hand dx (putF "apart" (.int ap) (putF "name" (.str nm) []))) (fun _ _ _ e => e : KX x H H)
      have e1 : (upd H x (.ins c.Hand dx (putF "apart" (.int ap) (putF "name" (.str nm) [])))) x = some (.ins c.Hand dx (putF "apart" (.int ap) (putF "name" (.str nm) []))) := upd_same
      generalize upd H x (.ins c.Hand dx (putF "apart" (.int ap) (putF "name" (.str nm) []))) = H1 at w1 k1 e1 ndk ⊢
      have ne : dk ≠ x := fun z => by rw [z, e1] at ndk; cases ndk
      refine ⟨x, c.Hand, dx, _, rfl, same_new ndk _ _ e1, T.o_Hand.cl, T.n_Hand_kept, (show ([(("name" : Str), V.str nm), (("apart" : Str), V.int ap)] : List (Str × V)).length < 1000 by simp), ?_⟩
      have w2 := (w1.new (o := .dK []) trivial ndk).ins (gs := fsH nm ap dk) (same_new ndk _ _ e1)
      have hdk : H dk = none := by
        cases e : H dk with
        | none => rfl
        | some o =>
          have := k1 dk o ne e
          rw [ndk] at this
          cases this
      exact bQ.mk w2 (k dk _ hdk upd_same ((upd_ne ne).trans upd_same) (kx_put (kx_new ndk k1)) w2)
    · refine ⟨hk, hs, wf, ?_⟩
      rw [hn]
      exact bE.same wf (Same.refl _) k
    · refine ⟨trivial, fun z e => by cases e; exact ⟨by have := sn.len; omega, sn.2⟩, wf, ?_⟩
      rw [sn.1]
      refine ⟨0, 1000000, rfl, rfl, hk, wf, ?_⟩
      rw [hw]
      exact bE.same wf (Same.refl _) k

def getI (es : List (Int × Int)) (k : Int) : Int := (valI es k).getD 0
/-- what a hand keeps behind an end heard -/
def heard (es : List (Int × Int)) (n e : Int) : List (Int × Int) := putI es n (if e < getI es n then getI es n else e)

abbrev s_Hand_hears : Stmt := inClass (topS 15) 1
abbrev N_Hand_hears : List Str := ["self", "loan", "end"]
theorem sc_Hand_hears : FnScope N_Hand_hears ["self", "loan", "end"] (defScope s_Hand_hears) := ⟨rfl, rfl, rfl, by decide +kernel, rfl, by decide +kernel, by decide +kernel⟩
def cr_Hand_hears (c : Ad) (C : Addr) : Prop := C = c.Hand
def sp_Hand_hears (K : PySem.W.Frag) (c : Ad) (C : Addr) : Sp := fun vs H Q E => arg3 (fun s v u => ∃ x nm ap es, s = .ref x ∧ C = c.Hand ∧ HandAt C H x nm ap es ∧ es.length ≤ 1000 ∧ Wf H ∧ ((∃ n e, v = .int n ∧ u = .int e ∧ 0 ≤ n ∧ 0 ≤ e ∧ ∀ dx dk, H x = some (.ins C dx (fsH nm ap dk)) → H dk = some (.dK (kvI es)) → Q .non (upd H dk (.dK (kvI (heard es n e))))) ∨ (Kn K H v ∧ isCountB v = false ∧ E (.ref c.NoLoan) none H) ∨ (Kn K H v ∧ isCountB v = true ∧ Kn K H u ∧ isCountB u = false ∧ E (.ref c.NoMoment) none H))) vs
theorem ok_Hand_hears {P : Program} {w : World} {K : PySem.W.Frag} {mg : Str → Option Value} {base : Heap} {c : Ad} (T : Txt K mg c) {C : Addr} (hC : cr_Hand_hears c C) : OkM P w K mg base 4 C "hears" ["self", "loan", "end"] (sp_Hand_hears K c C) := by
  have F : MtAt K C "hears" "Hand.hears" s_Hand_hears ["self", "loan", "end"] := by
    rcases hC with rfl
    · exact T.m_Hand_hears
  have cl : Cls K C := by
    rcases hC with rfl
    · exact T.o_Hand.cl
  have n_name : NoAttr K C "name" := by
    rcases hC with rfl
    · exact T.n_Hand_name
  have n_apart : NoAttr K C "apart" := by
    rcases hC with rfl
    · exact T.n_Hand_apart
  have n_kept : NoAttr K C "kept" := by
    rcases hC with rfl
    · exact T.n_Hand_kept
  refine okM F sc_Hand_hears (fun vs H Q E h => ?_) (fun f cdv A outer sh H vs Q E hr h => ?_)
  · obtain ⟨s, v, u, rfl, h⟩ := arg3.ex h
    rfl
  · obtain ⟨s, v, u, rfl, h⟩ := arg3.ex h
    have tk : Takes (cxOf (L2.CX P w) P w K mg base N_Hand_hears "Hand.hears" (defScope s_Hand_hears) f cdv A outer sh H (bE H E)) (fun cls d _ H' => bE H E cls d H') := takes_of rfl rfl rfl rfl
    refine ⟨_, pss_cons (ps_if (pt_not (pt_truthU (K := K) (pe_f (ok_is_count (K := K) T) (hr.mono (by decide)) passL (pa_cons (lv 1) pa_nil)) (by intro _; rfl)))
      (pss_one (ps_rai T.x_NoLoan tk)) pss_nil)
      (pss_cons (ps_expr (pe_fS (ok_sure_clock (K := K) T) hr tk (pa_cons (lv 2) pa_nil)))
      (pss_one (ps_dput (roomU1 hr :) (pe_fldK (K := K) (lv 0) rfl) (lv 1) (pe_callB (callU_max2 rfl) (by rfl) T.m_max (by decide +kernel) (pa_cons (lv 2) (pa_cons (pe_dget2 (roomU1 hr :) (pe_fldK (K := K) (lv 0) rfl) (lv 1) pe_int ⟨by rfl, by rfl, by rfl, by rfl⟩) pa_nil))) (by rfl)))), ?_⟩
    obtain ⟨x, nm, ap, es, rfl, eC, ⟨dx, dk, hx, hd⟩, le, wf, h⟩ := h
    rcases h with ⟨n, e, rfl, rfl, n0, e0, k⟩ | ⟨hk, hn, k⟩ | ⟨hk, hn, hu, hm, k⟩
    · refine ⟨trivial, wf, ?_⟩
      rw [count_ok n0]
      refine ⟨trivial, wf, fun _ => ?_, fun z => by rw [count_ok e0] at z; cases z⟩
      subst eC
      have eg : ((valI es n).map V.int).getD (.int 0) = .int (getI es n) := by
        unfold getI
        cases valI es n <;> rfl
      refine ⟨x, c.Hand, dx, _, _, rfl, hx, T.o_Hand.cl, T.n_Hand_kept, rfl, ?_⟩
      refine ⟨dk, rfl, .inl ⟨_, .inl hd⟩, (valI es n).map V.int, kvI_val es n ▸ DGet.k (k := .inl n) hd, ?_⟩
      rw [eg]
      refine ⟨x, c.Hand, dx, _, _, rfl, hx, T.o_Hand.cl, T.n_Hand_kept, rfl, ?_⟩
      refine ⟨dk, _, rfl, .inl ⟨kvI es, .inl n, hd, rfl, line_lt (by rw [kvI_len]; omega), rfl⟩, ?_⟩
      rw [kvI_put]
      exact bQ.mk (wf.at trivial hd fun _ z => by cases z) (k dx dk hx hd)
    · refine ⟨hk, wf, ?_⟩
      rw [hn]
      exact bE.same wf (Same.refl _) k
    · refine ⟨hk, wf, ?_⟩
      rw [hn]
      refine ⟨hu, wf, fun z => (by rw [hm] at z; cases z), fun _ => ?_⟩
      exact bE.same wf (Same.refl _) k
theorem okm_Hand_hears {P : Program} {w : World} {K : PySem.W.Frag} {mg : Str → Option Value} {base : Heap} {c : Ad} (T : Txt K mg c) : ∀ C, cs_Hand c C → OkM P w K mg base 4 C "hears" ["self", "loan", "end"] (sp_Hand_hears K c C) := fun C h => ok_Hand_hears T (by
  have e : C = c.Hand := h
  exact e)

abbrev s_Hand_end_of : Stmt := inClass (topS 15) 2
abbrev N_Hand_end_of : List Str := ["self", "loan"]
theorem sc_Hand_end_of : FnScope N_Hand_end_of ["self", "loan"] (defScope s_Hand_end_of) := ⟨rfl, rfl, rfl, by decide +kernel, rfl, by decide +kernel, by decide +kernel⟩
def cr_Hand_end_of (c : Ad) (C : Addr) : Prop := C = c.Hand
def sp_Hand_end_of (K : PySem.W.Frag) (c : Ad) (C : Addr) : Sp := fun vs H Q E => arg2 (fun s v => ∃ x nm ap es, s = .ref x ∧ C = c.Hand ∧ HandAt C H x nm ap es ∧ Wf H ∧ ((∃ n e, v = .int n ∧ 0 ≤ n ∧ valI es n = some e ∧ Q (.int e) H) ∨ (Kn K H v ∧ (∀ n, v = .int n → 0 ≤ n → valI es n = none) ∧ E (.ref c.NoLoan) none H))) vs
theorem ok_Hand_end_of {P : Program} {w : World} {K : PySem.W.Frag} {mg : Str → Option Value} {base : Heap} {c : Ad} (T : Txt K mg c) {C : Addr} (hC : cr_Hand_end_of c C) : OkM P w K mg base 3 C "end_of" ["self", "loan"] (sp_Hand_end_of K c C) := by
  have F : MtAt K C "end_of" "Hand.end_of" s_Hand_end_of ["self", "loan"] := by
    rcases hC with rfl
    · exact T.m_Hand_end_of
  have cl : Cls K C := by
    rcases hC with rfl
    · exact T.o_Hand.cl
  have n_name : NoAttr K C "name" := by
    rcases hC with rfl
    · exact T.n_Hand_name
  have n_apart : NoAttr K C "apart" := by
    rcases hC with rfl
    · exact T.n_Hand_apart
  have n_kept : NoAttr K C "kept" := by
    rcases hC with rfl
    · exact T.n_Hand_kept
  refine okM F sc_Hand_end_of (fun vs H Q E h => ?_) (fun f cdv A outer sh H vs Q E hr h => ?_)
  · obtain ⟨s, v, rfl, h⟩ := arg2.ex h
    rfl
  · obtain ⟨s, v, rfl, h⟩ := arg2.ex h
    have tk : Takes (cxOf (L2.CX P w) P w K mg base N_Hand_end_of "Hand.end_of" (defScope s_Hand_end_of) f cdv A outer sh H (bE H E)) (fun cls d _ H' => bE H E cls d H') := takes_of rfl rfl rfl rfl
    refine ⟨_, pss_cons (ps_if (PW.pt (pw_or (pt_not (pt_truthU (K := K) (pe_f (ok_is_count (K := K) T) (hr.mono (by decide)) passL (pa_cons (lv 1) pa_nil)) (by intro _; rfl))) (pw_or1 (pt_pcU (pc_dnotin (roomU1 hr :) (lv 1) (pe_fldK (K := K) (lv 0) rfl)) (by rfl)))))
      (pss_one (ps_rai T.x_NoLoan tk)) pss_nil)
      (pss_one (ps_ret (pe_dget (roomU1 hr :) (pe_fldK (K := K) (lv 0) rfl) (lv 1) (fun _ _ => rfl)))), ?_⟩
    obtain ⟨x, nm, ap, es, rfl, eC, ⟨dx, dk, hx, hd⟩, wf, g0⟩ := h
    subst eC
    rcases g0 with ⟨n, e, rfl, n0, hv, k⟩ | ⟨hk, hn, k⟩
    · refine ⟨trivial, wf, ?_⟩
      rw [count_ok n0]
      have hg : DGet H dk (.int n) (some (.int e)) := by
        have := DGet.k (k := .inl n) hd
        rw [kvI_val, hv] at this
        exact this
      refine ⟨x, c.Hand, dx, _, _, rfl, hx, T.o_Hand.cl, T.n_Hand_kept, rfl, ?_⟩
      refine ⟨dk, _, rfl, hg, ?_⟩
      refine ⟨x, c.Hand, dx, _, _, rfl, hx, T.o_Hand.cl, T.n_Hand_kept, rfl, ?_⟩
      exact ⟨dk, _, rfl, hg, bQ.same wf (Same.refl _) k⟩
    · refine ⟨hk, wf, ?_⟩
      refine iteB (c := !isCountB v) (fun g => ?_) (fun g => ?_)
      · exact bE.same wf (Same.refl _) k
      · obtain ⟨n, rfl, n0⟩ : ∃ n, v = .int n ∧ 0 ≤ n := by
          have g' := not_b' g
          cases v with
          | int n => exact ⟨n, rfl, of_decide_eq_true g'⟩
          | _ => cases g'
        have hg : DGet H dk (.int n) none := by
          have := DGet.k (k := .inl n) hd
          rw [kvI_val, hn n rfl n0] at this
          exact this
        refine ⟨x, c.Hand, dx, _, _, rfl, hx, T.o_Hand.cl, T.n_Hand_kept, rfl, ?_⟩
        exact ⟨dk, _, rfl, hg, bE.same wf (Same.refl _) k⟩
theorem okm_Hand_end_of {P : Program} {w : World} {K : PySem.W.Frag} {mg : Str → Option Value} {base : Heap} {c : Ad} (T : Txt K mg c) : ∀ C, cs_Hand c C → OkM P w K mg base 3 C "end_of" ["self", "loan"] (sp_Hand_end_of K c C) := fun C h => ok_Hand_end_of T (by
  have e : C = c.Hand := h
  exact e)

abbrev s_Hand_surely_out : Stmt := inClass (topS 15) 4
abbrev N_Hand_surely_out : List Str := ["self", "clock", "loan"]
theorem sc_Hand_surely_out : FnScope N_Hand_surely_out ["self", "clock", "loan"] (defScope s_Hand_surely_out) := ⟨rfl, rfl, rfl, by decide +kernel, rfl, by decide +kernel, by decide +kernel⟩
def cr_Hand_surely_out (c : Ad) (C : Addr) : Prop := C = c.Hand
def sp_Hand_surely_out (K : PySem.W.Frag) (c : Ad) (C : Addr) : Sp := fun vs H Q E => arg3 (fun s u v => ∃ x nm ap es, s = .ref x ∧ C = c.Hand ∧ HandAt C H x nm ap es ∧ Wf H ∧ ((∃ cl n e, u = .int cl ∧ 0 ≤ cl ∧ v = .int n ∧ 0 ≤ n ∧ valI es n = some e ∧ Q (.bl (decide (cl + ap < e))) H) ∨ (Kn K H u ∧ isCountB u = false ∧ E (.ref c.NoMoment) none H) ∨ (Kn K H u ∧ isCountB u = true ∧ Kn K H v ∧ (∀ n, v = .int n → 0 ≤ n → valI es n = none) ∧ E (.ref c.NoLoan) none H))) vs
theorem ok_Hand_surely_out {P : Program} {w : World} {K : PySem.W.Frag} {mg : Str → Option Value} {base : Heap} {c : Ad} (T : Txt K mg c) {C : Addr} (hC : cr_Hand_surely_out c C) : OkM P w K mg base 4 C "surely_out" ["self", "clock", "loan"] (sp_Hand_surely_out K c C) := by
  have F : MtAt K C "surely_out" "Hand.surely_out" s_Hand_surely_out ["self", "clock", "loan"] := by
    rcases hC with rfl
    · exact T.m_Hand_surely_out
  have cl : Cls K C := by
    rcases hC with rfl
    · exact T.o_Hand.cl
  have n_name : NoAttr K C "name" := by
    rcases hC with rfl
    · exact T.n_Hand_name
  have n_apart : NoAttr K C "apart" := by
    rcases hC with rfl
    · exact T.n_Hand_apart
  have n_kept : NoAttr K C "kept" := by
    rcases hC with rfl
    · exact T.n_Hand_kept
  refine okM F sc_Hand_surely_out (fun vs H Q E h => ?_) (fun f cdv A outer sh H vs Q E hr h => ?_)
  · obtain ⟨s, u, v, rfl, h⟩ := arg3.ex h
    rfl
  · obtain ⟨s, u, v, rfl, h⟩ := arg3.ex h
    have tk : Takes (cxOf (L2.CX P w) P w K mg base N_Hand_surely_out "Hand.surely_out" (defScope s_Hand_surely_out) f cdv A outer sh H (bE H E)) (fun cls d _ H' => bE H E cls d H') := takes_of rfl rfl rfl rfl
    refine ⟨_, pss_cons (ps_expr (pe_fS (ok_sure_clock (K := K) T) hr tk (pa_cons (lv 1) pa_nil)))
      (pss_one (ps_ret (pe_cmpR opU_lt (pe_op (opU_add (K := K)) (lv 1) (pe_fldK (K := K) (lv 0) rfl)) (pe_mS (CS := cs_Hand c) (lv 0) (okc_Hand T) (okm_Hand_end_of T) hr tk (pa_cons (lv 2) pa_nil)) (nomark _)))), ?_⟩
    obtain ⟨x, nm, ap, es, rfl, eC, ha, wf, g0⟩ := h
    obtain ⟨dx, dk, hx, hd⟩ := ha
    have ha : HandAt C H x nm ap es := ⟨dx, dk, hx, hd⟩
    subst eC
    rcases g0 with ⟨cl, n, e, rfl, c0, rfl, n0, hv, k⟩ | ⟨hk, hn, k⟩ | ⟨hk, hc, hk2, hn, k⟩
    · refine ⟨trivial, wf, fun _ => ?_, fun z => by rw [count_ok c0] at z; cases z⟩
      refine ⟨x, c.Hand, dx, _, _, rfl, hx, T.o_Hand.cl, T.n_Hand_apart, rfl, ?_⟩
      refine ⟨x, c.Hand, dx, _, rfl, hx, rfl, rfl, x, nm, ap, es, rfl, rfl, ha, wf, .inl ⟨n, e, rfl, n0, hv, ?_⟩⟩
      exact bQ.same wf (Same.refl _) k
    · refine ⟨hk, wf, fun z => (by rw [hn] at z; cases z), fun _ => ?_⟩
      exact bE.same wf (Same.refl _) k
    · refine ⟨hk, wf, fun _ => ?_, fun z => (by rw [hc] at z; cases z)⟩
      obtain ⟨cl, rfl⟩ : ∃ cl, u = .int cl := by
        cases u with
        | int n => exact ⟨n, rfl⟩
        | _ => cases hc
      refine ⟨x, c.Hand, dx, _, _, rfl, hx, T.o_Hand.cl, T.n_Hand_apart, rfl, ?_⟩
      refine ⟨x, c.Hand, dx, _, rfl, hx, rfl, rfl, x, nm, ap, es, rfl, rfl, ha, wf, .inr ⟨hk2, hn, ?_⟩⟩
      exact bE.same wf (Same.refl _) k
theorem okm_Hand_surely_out {P : Program} {w : World} {K : PySem.W.Frag} {mg : Str → Option Value} {base : Heap} {c : Ad} (T : Txt K mg c) : ∀ C, cs_Hand c C → OkM P w K mg base 4 C "surely_out" ["self", "clock", "loan"] (sp_Hand_surely_out K c C) := fun C h => ok_Hand_surely_out T (by
  have e : C = c.Hand := h
  exact e)

abbrev s_Hand_surely_over : Stmt := inClass (topS 15) 5
abbrev N_Hand_surely_over : List Str := ["self", "clock", "loan"]
theorem sc_Hand_surely_over : FnScope N_Hand_surely_over ["self", "clock", "loan"] (defScope s_Hand_surely_over) := ⟨rfl, rfl, rfl, by decide +kernel, rfl, by decide +kernel, by decide +kernel⟩
def cr_Hand_surely_over (c : Ad) (C : Addr) : Prop := C = c.Hand
def sp_Hand_surely_over (K : PySem.W.Frag) (c : Ad) (C : Addr) : Sp := fun vs H Q E => arg3 (fun s u v => ∃ x nm ap es, s = .ref x ∧ C = c.Hand ∧ HandAt C H x nm ap es ∧ Wf H ∧ ((∃ cl n e, u = .int cl ∧ 0 ≤ cl ∧ v = .int n ∧ 0 ≤ n ∧ valI es n = some e ∧ Q (.bl (decide (e ≤ cl - ap))) H) ∨ (Kn K H u ∧ isCountB u = false ∧ E (.ref c.NoMoment) none H) ∨ (Kn K H u ∧ isCountB u = true ∧ Kn K H v ∧ (∀ n, v = .int n → 0 ≤ n → valI es n = none) ∧ E (.ref c.NoLoan) none H))) vs
theorem ok_Hand_surely_over {P : Program} {w : World} {K : PySem.W.Frag} {mg : Str → Option Value} {base : Heap} {c : Ad} (T : Txt K mg c) {C : Addr} (hC : cr_Hand_surely_over c C) : OkM P w K mg base 4 C "surely_over" ["self", "clock", "loan"] (sp_Hand_surely_over K c C) := by
  have F : MtAt K C "surely_over" "Hand.surely_over" s_Hand_surely_over ["self", "clock", "loan"] := by
    rcases hC with rfl
    · exact T.m_Hand_surely_over
  have cl : Cls K C := by
    rcases hC with rfl
    · exact T.o_Hand.cl
  have n_name : NoAttr K C "name" := by
    rcases hC with rfl
    · exact T.n_Hand_name
  have n_apart : NoAttr K C "apart" := by
    rcases hC with rfl
    · exact T.n_Hand_apart
  have n_kept : NoAttr K C "kept" := by
    rcases hC with rfl
    · exact T.n_Hand_kept
  refine okM F sc_Hand_surely_over (fun vs H Q E h => ?_) (fun f cdv A outer sh H vs Q E hr h => ?_)
  · obtain ⟨s, u, v, rfl, h⟩ := arg3.ex h
    rfl
  · obtain ⟨s, u, v, rfl, h⟩ := arg3.ex h
    have tk : Takes (cxOf (L2.CX P w) P w K mg base N_Hand_surely_over "Hand.surely_over" (defScope s_Hand_surely_over) f cdv A outer sh H (bE H E)) (fun cls d _ H' => bE H E cls d H') := takes_of rfl rfl rfl rfl
    refine ⟨_, pss_cons (ps_expr (pe_fS (ok_sure_clock (K := K) T) hr tk (pa_cons (lv 1) pa_nil)))
      (pss_one (ps_ret (pe_cmpR opU_ge (pe_op opU_sub (lv 1) (pe_fldK (K := K) (lv 0) rfl)) (pe_mS (CS := cs_Hand c) (lv 0) (okc_Hand T) (okm_Hand_end_of T) hr tk (pa_cons (lv 2) pa_nil)) (nomark _)))), ?_⟩
    obtain ⟨x, nm, ap, es, rfl, eC, ha, wf, g0⟩ := h
    obtain ⟨dx, dk, hx, hd⟩ := ha
    have ha : HandAt C H x nm ap es := ⟨dx, dk, hx, hd⟩
    subst eC
    rcases g0 with ⟨cl, n, e, rfl, c0, rfl, n0, hv, k⟩ | ⟨hk, hn, k⟩ | ⟨hk, hc, hk2, hn, k⟩
    · refine ⟨trivial, wf, fun _ => ?_, fun z => by rw [count_ok c0] at z; cases z⟩
      refine ⟨x, c.Hand, dx, _, _, rfl, hx, T.o_Hand.cl, T.n_Hand_apart, rfl, ?_⟩
      refine ⟨x, c.Hand, dx, _, rfl, hx, rfl, rfl, x, nm, ap, es, rfl, rfl, ha, wf, .inl ⟨n, e, rfl, n0, hv, ?_⟩⟩
      exact bQ.same wf (Same.refl _) k
    · refine ⟨hk, wf, fun z => (by rw [hn] at z; cases z), fun _ => ?_⟩
      exact bE.same wf (Same.refl _) k
    · refine ⟨hk, wf, fun _ => ?_, fun z => (by rw [hc] at z; cases z)⟩
      obtain ⟨cl, rfl⟩ : ∃ cl, u = .int cl := by
        cases u with
        | int n => exact ⟨n, rfl⟩
        | _ => cases hc
      refine ⟨x, c.Hand, dx, _, _, rfl, hx, T.o_Hand.cl, T.n_Hand_apart, rfl, ?_⟩
      refine ⟨x, c.Hand, dx, _, rfl, hx, rfl, rfl, x, nm, ap, es, rfl, rfl, ha, wf, .inr ⟨hk2, hn, ?_⟩⟩
      exact bE.same wf (Same.refl _) k
theorem okm_Hand_surely_over {P : Program} {w : World} {K : PySem.W.Frag} {mg : Str → Option Value} {base : Heap} {c : Ad} (T : Txt K mg c) : ∀ C, cs_Hand c C → OkM P w K mg base 4 C "surely_over" ["self", "clock", "loan"] (sp_Hand_surely_over K c C) := fun C h => ok_Hand_surely_over T (by
  have e : C = c.Hand := h
  exact e)

abbrev s_Hand_left : Stmt := inClass (topS 15) 6
abbrev N_Hand_left : List Str := ["self", "clock", "loan"]
theorem sc_Hand_left : FnScope N_Hand_left ["self", "clock", "loan"] (defScope s_Hand_left) := ⟨rfl, rfl, rfl, by decide +kernel, rfl, by decide +kernel, by decide +kernel⟩
def cr_Hand_left (c : Ad) (C : Addr) : Prop := C = c.Hand
def sp_Hand_left (K : PySem.W.Frag) (c : Ad) (C : Addr) : Sp := fun vs H Q E => arg3 (fun s u v => ∃ x nm ap es, s = .ref x ∧ C = c.Hand ∧ HandAt C H x nm ap es ∧ Wf H ∧ ((∃ cl n e, u = .int cl ∧ 0 ≤ cl ∧ v = .int n ∧ 0 ≤ n ∧ valI es n = some e ∧ Q (.int (if 0 < e - ap - 1 - cl then e - ap - 1 - cl else 0)) H) ∨ (Kn K H u ∧ isCountB u = false ∧ E (.ref c.NoMoment) none H) ∨ (Kn K H u ∧ isCountB u = true ∧ Kn K H v ∧ (∀ n, v = .int n → 0 ≤ n → valI es n = none) ∧ E (.ref c.NoLoan) none H))) vs
theorem ok_Hand_left {P : Program} {w : World} {K : PySem.W.Frag} {mg : Str → Option Value} {base : Heap} {c : Ad} (T : Txt K mg c) {C : Addr} (hC : cr_Hand_left c C) : OkM P w K mg base 4 C "left" ["self", "clock", "loan"] (sp_Hand_left K c C) := by
  have F : MtAt K C "left" "Hand.left" s_Hand_left ["self", "clock", "loan"] := by
    rcases hC with rfl
    · exact T.m_Hand_left
  have cl : Cls K C := by
    rcases hC with rfl
    · exact T.o_Hand.cl
  have n_name : NoAttr K C "name" := by
    rcases hC with rfl
    · exact T.n_Hand_name
  have n_apart : NoAttr K C "apart" := by
    rcases hC with rfl
    · exact T.n_Hand_apart
  have n_kept : NoAttr K C "kept" := by
    rcases hC with rfl
    · exact T.n_Hand_kept
  refine okM F sc_Hand_left (fun vs H Q E h => ?_) (fun f cdv A outer sh H vs Q E hr h => ?_)
  · obtain ⟨s, u, v, rfl, h⟩ := arg3.ex h
    rfl
  · obtain ⟨s, u, v, rfl, h⟩ := arg3.ex h
    have tk : Takes (cxOf (L2.CX P w) P w K mg base N_Hand_left "Hand.left" (defScope s_Hand_left) f cdv A outer sh H (bE H E)) (fun cls d _ H' => bE H E cls d H') := takes_of rfl rfl rfl rfl
    refine ⟨_, pss_cons (ps_expr (pe_fS (ok_sure_clock (K := K) T) hr tk (pa_cons (lv 1) pa_nil)))
      (pss_one (ps_ret (pe_callB (callU_max2 rfl) (by rfl) T.m_max (by decide +kernel) (pa_cons pe_int (pa_cons (pe_op opU_sub (pe_op opU_sub (pe_op opU_sub (pe_mS (CS := cs_Hand c) (lv 0) (okc_Hand T) (okm_Hand_end_of T) hr tk (pa_cons (lv 2) pa_nil)) (pe_fldK (K := K) (lv 0) rfl)) pe_int) (lv 1)) pa_nil))))), ?_⟩
    obtain ⟨x, nm, ap, es, rfl, eC, ha, wf, g0⟩ := h
    obtain ⟨dx, dk, hx, hd⟩ := ha
    have ha : HandAt C H x nm ap es := ⟨dx, dk, hx, hd⟩
    subst eC
    rcases g0 with ⟨cl, n, e, rfl, c0, rfl, n0, hv, k⟩ | ⟨hk, hn, k⟩ | ⟨hk, hc, hk2, hn, k⟩
    · refine ⟨trivial, wf, fun _ => ?_, fun z => by rw [count_ok c0] at z; cases z⟩
      refine ⟨x, c.Hand, dx, _, rfl, hx, rfl, rfl, x, nm, ap, es, rfl, rfl, ha, wf, .inl ⟨n, e, rfl, n0, hv, ?_⟩⟩
      refine ⟨x, c.Hand, dx, _, _, rfl, hx, T.o_Hand.cl, T.n_Hand_apart, rfl, ?_⟩
      exact bQ.same wf (Same.refl _) k
    · refine ⟨hk, wf, fun z => (by rw [hn] at z; cases z), fun _ => ?_⟩
      exact bE.same wf (Same.refl _) k
    · refine ⟨hk, wf, fun _ => ?_, fun z => (by rw [hc] at z; cases z)⟩
      obtain ⟨cl, rfl⟩ : ∃ cl, u = .int cl := by
        cases u with
        | int n => exact ⟨n, rfl⟩
        | _ => cases hc
      refine ⟨x, c.Hand, dx, _, rfl, hx, rfl, rfl, x, nm, ap, es, rfl, rfl, ha, wf, .inr ⟨hk2, hn, ?_⟩⟩
      exact bE.same wf (Same.refl _) k
theorem okm_Hand_left {P : Program} {w : World} {K : PySem.W.Frag} {mg : Str → Option Value} {base : Heap} {c : Ad} (T : Txt K mg c) : ∀ C, cs_Hand c C → OkM P w K mg base 4 C "left" ["self", "clock", "loan"] (sp_Hand_left K c C) := fun C h => ok_Hand_left T (by
  have e : C = c.Hand := h
  exact e)

theorem HandAt.dr {C a : Addr} {H H' : Hp} {x : Addr} {nm : Str} {ap : Int} {es : List (Int × Int)} (h : HandAt C H x nm ap es) (d : Dr a H H') (s : St2 H a) : HandAt C H' x nm ap es := by
  obtain ⟨dx, dk, h1, h2⟩ := h
  exact ⟨dx, dk, d.at h1 (fun _ _ z => by cases z) s, d.at h2 (fun _ _ z => by cases z) s⟩
theorem e6i : (10 : Int) ^ Int.toNat 6 = 1000000 := by decide
theorem e12i : (10 : Int) ^ Int.toNat 12 = 1000000000000 := by decide
theorem e13i : (10 : Int) ^ Int.toNat 13 = 10000000000000 := by decide
theorem e7i : (10 : Int) ^ Int.toNat 7 = 10000000 := by decide

abbrev s__law_apart : Stmt := topS 22
abbrev N__law_apart : List Str := ["_law_state_here"]
theorem sc__law_apart : FnScope N__law_apart ["_law_state_here"] (defScope s__law_apart) := ⟨rfl, rfl, rfl, by decide +kernel, rfl, by decide +kernel, by decide +kernel⟩
def sp__law_apart (K : PySem.W.Frag) (c : Ad) : Sp := fun vs H Q E => arg1 (fun s => ∃ a, s = .ref a ∧ St2 H a ∧ Wf H ∧ ∀ n H', 0 ≤ n → n ≤ 1000000 → Dr a H H' → Q (.int n) H') vs
theorem ok__law_apart {P : Program} {w : World} {K : PySem.W.Frag} {mg : Str → Option Value} {base : Heap} {c : Ad} (T : Txt K mg c) : Ok P w K mg base 3 "_law_apart" ["_law_state_here"] (sp__law_apart K c) := by
  refine okF T.f__law_apart sc__law_apart (fun vs H Q E h => ?_) (fun f cdv A outer sh H vs Q E hr h => ?_)
  · obtain ⟨s, rfl, h⟩ := arg1.ex h
    rfl
  · obtain ⟨s, rfl, h⟩ := arg1.ex h
    have tk : Takes (cxOf (L2.CX P w) P w K mg base N__law_apart "_law_apart" (defScope s__law_apart) f cdv A outer sh H (bE H E)) (fun cls d _ H' => bE H E cls d H') := takes_of rfl rfl rfl rfl
    refine ⟨_, pss_one (ps_ret (pe_ix (ixU (K := K)) (pe_lst (pa_cons pe_int (pa_cons (pe_f (ok__law_digit (K := K) T) hr passL (pa_cons (lv 0) (pa_cons pe_int pa_nil))) (pa_cons (pe_f (ok__law_digit (K := K) T) hr passL (pa_cons (lv 0) (pa_cons (pe_op (opU_add (K := K)) (pe_op opU_pow pe_int pe_int) pe_int) pa_nil))) (pa_cons (pe_op opU_pow pe_int pe_int) pa_nil))))) (pe_f (ok__law_digit (K := K) T) hr passL (pa_cons (lv 0) (pa_cons pe_int pa_nil))) (fun _ _ => rfl))), ?_⟩
    obtain ⟨a, rfl, s0, wf, k⟩ := h
    have d0 := Dr.refl s0 wf
    refine ⟨a, 9, rfl, rfl, d0.st, bas_lt (by decide) (by decide), d0.wf, fun r1 p1 q1 g1 l1 n1 => ?_⟩
    have d1 := d0.drawn (q := q1) n1
    generalize upd H a (stL p1 q1) = H1 at d1  ⊢
    refine ⟨⟨by decide, by decide, by decide⟩, ?_⟩
    refine ⟨a, _, rfl, rfl, d1.st, bas_lt (by decide) (by decide), d1.wf, fun r2 p2 q2 g2 l2 n2 => ?_⟩
    have d2 := d1.drawn (q := q2) n2
    generalize upd H1 a (stL p2 q2) = H2 at d2  ⊢
    have l2' : r2 < 1000001 := l2
    refine ⟨⟨by decide, by decide, by decide⟩, ?_⟩
    refine ⟨line_of (show 4 ≤ 16777216 by decide), fun x1 nx1 => ?_⟩
    have nex1 := st_ne d2.st nx1
    have d3 := d2.new (p := x1) (o := .lst [.int 0, .int r1, .int r2, .int (10 ^ Int.toNat 6)]) nx1 trivial
    have ex1 : (upd H2 x1 (.lst [.int 0, .int r1, .int r2, .int (10 ^ Int.toNat 6)])) x1 = some (.lst [.int 0, .int r1, .int r2, .int (10 ^ Int.toNat 6)]) := upd_same
    generalize upd H2 x1 (.lst [.int 0, .int r1, .int r2, .int (10 ^ Int.toNat 6)]) = H3 at d3 ex1  ⊢
    refine ⟨a, 4, rfl, rfl, d3.st, bas_lt (by decide) (by decide), d3.wf, fun r4 p4 q4 g4 l4 n4 => ?_⟩
    have d4 := d3.drawn (q := q4) n4
    replace ex1 := (upd_ne (o := stL p4 q4) nex1).trans ex1
    generalize upd H3 a (stL p4 q4) = H4 at d4 ex1 ⊢
    obtain ⟨v, hv, mv⟩ := at_lt (xs := [V.int 0, .int r1, .int r2, .int (10 ^ Int.toNat 6)]) g4 (by exact l4)
    refine ⟨_, v, .inl (.inl (.inl ex1)), hv, ?_⟩
    obtain ⟨n, rfl, h0, h1⟩ : ∃ n, v = .int n ∧ 0 ≤ n ∧ n ≤ 1000000 := by
      simp only [List.mem_cons, List.not_mem_nil, or_false] at mv
      rcases mv with rfl | rfl | rfl | rfl
      · exact ⟨_, rfl, by omega, by omega⟩
      · exact ⟨_, rfl, by omega, by omega⟩
      · exact ⟨_, rfl, by omega, by omega⟩
      · exact ⟨_, rfl, by decide, by decide⟩
    exact bQ.mk d4.wf (k n _ h0 h1 d4)

abbrev s__law_end : Stmt := topS 23
abbrev N__law_end : List Str := ["_law_state_here", "_law_base", "_law_way", "_law_few"]
theorem sc__law_end : FnScope N__law_end ["_law_state_here", "_law_base"] (defScope s__law_end) := ⟨rfl, rfl, rfl, by decide +kernel, rfl, by decide +kernel, by decide +kernel⟩
def sp__law_end (K : PySem.W.Frag) (c : Ad) : Sp := fun vs H Q E => arg2 (fun s v => ∃ a b, s = .ref a ∧ v = .int b ∧ 0 ≤ b ∧ b ≤ 10000000000000 ∧ St2 H a ∧ Wf H ∧ ∀ n H', 0 ≤ n → n ≤ 20000000000000 → Dr a H H' → Q (.int n) H') vs
theorem ok__law_end {P : Program} {w : World} {K : PySem.W.Frag} {mg : Str → Option Value} {base : Heap} {c : Ad} (T : Txt K mg c) : Ok P w K mg base 3 "_law_end" ["_law_state_here", "_law_base"] (sp__law_end K c) := by
  refine okF T.f__law_end sc__law_end (fun vs H Q E h => ?_) (fun f cdv A outer sh H vs Q E hr h => ?_)
  · obtain ⟨s, v, rfl, h⟩ := arg2.ex h
    rfl
  · obtain ⟨s, v, rfl, h⟩ := arg2.ex h
    have tk : Takes (cxOf (L2.CX P w) P w K mg base N__law_end "_law_end" (defScope s__law_end) f cdv A outer sh H (bE H E)) (fun cls d _ H' => bE H E cls d H') := takes_of rfl rfl rfl rfl
    refine ⟨_, pss_cons (ps_set (i := 2) sc__law_end.nd rfl (.inl rfl) (pe_f (ok__law_digit (K := K) T) hr passL (pa_cons (lv 0) (pa_cons pe_int pa_nil))))
      (pss_cons (ps_set (i := 3) sc__law_end.nd rfl (.inl rfl) (pe_f (ok__law_digit (K := K) T) hr passL (pa_cons (lv 0) (pa_cons pe_int pa_nil))))
      (pss_one (ps_ret (pe_ix (ixU (K := K)) (pe_lst (pa_cons (pe_op (opU_add (K := K)) (lv 1) (lv 3)) (pa_cons (pe_callB (callU_max2 rfl) (by rfl) T.m_max (by decide +kernel) (pa_cons pe_int (pa_cons (pe_op opU_sub (lv 1) (lv 3)) pa_nil))) (pa_cons (pe_op (opU_add (K := K)) (lv 1) (lv 3)) (pa_cons (pe_f (ok__law_digit (K := K) T) hr passL (pa_cons (lv 0) (pa_cons (pe_op opU_pow pe_int pe_int) pa_nil))) (pa_cons (lv 3) pa_nil)))))) (lv 2) (fun _ _ => rfl))))), ?_⟩
    obtain ⟨a, b, rfl, rfl, b0, b1, s0, wf, k⟩ := h
    have d0 := Dr.refl s0 wf
    refine ⟨a, 5, rfl, rfl, d0.st, bas_lt (by decide) (by decide), d0.wf, fun r1 p1 q1 g1 l1 n1 => ?_⟩
    have d1 := d0.drawn (q := q1) n1
    generalize upd H a (stL p1 q1) = H1 at d1  ⊢
    refine ⟨a, 30, rfl, rfl, d1.st, bas_lt (by decide) (by decide), d1.wf, fun r2 p2 q2 g2 l2 n2 => ?_⟩
    have d2 := d1.drawn (q := q2) n2
    generalize upd H1 a (stL p2 q2) = H2 at d2  ⊢
    refine ⟨⟨by decide, by decide, by decide⟩, ?_⟩
    refine ⟨a, _, rfl, rfl, d2.st, bas_lt (by decide) (by decide), d2.wf, fun r3 p3 q3 g3 l3 n3 => ?_⟩
    have d3 := d2.drawn (q := q3) n3
    generalize upd H2 a (stL p3 q3) = H3 at d3  ⊢
    have l3' : r3 < 10000000000000 := l3
    refine ⟨line_of (show 5 ≤ 16777216 by decide), fun x1 nx1 => ?_⟩
    have nex1 := st_ne d3.st nx1
    have d4 := d3.new (p := x1) (o := .lst [.int (b + r2), .int (if b - r2 > 0 then b - r2 else 0), .int (b + r2), .int r3, .int r2]) nx1 trivial
    have ex1 : (upd H3 x1 (.lst [.int (b + r2), .int (if b - r2 > 0 then b - r2 else 0), .int (b + r2), .int r3, .int r2])) x1 = some (.lst [.int (b + r2), .int (if b - r2 > 0 then b - r2 else 0), .int (b + r2), .int r3, .int r2]) := upd_same
    generalize upd H3 x1 (.lst [.int (b + r2), .int (if b - r2 > 0 then b - r2 else 0), .int (b + r2), .int r3, .int r2]) = H4 at d4 ex1  ⊢
    obtain ⟨v, hv, mv⟩ := at_lt (xs := [V.int (b + r2), .int (if b - r2 > 0 then b - r2 else 0), .int (b + r2), .int r3, .int r2]) g1 (by exact l1)
    refine ⟨_, v, .inl (.inl (.inl ex1)), hv, ?_⟩
    obtain ⟨n, rfl, h0, h1⟩ : ∃ n, v = .int n ∧ 0 ≤ n ∧ n ≤ 20000000000000 := by
      simp only [List.mem_cons, List.not_mem_nil, or_false] at mv
      rcases mv with rfl | rfl | rfl | rfl | rfl
      · exact ⟨_, rfl, by omega, by omega⟩
      · exact ⟨_, rfl, by split <;> omega, by split <;> omega⟩
      · exact ⟨_, rfl, by omega, by omega⟩
      · exact ⟨_, rfl, by omega, by omega⟩
      · exact ⟨_, rfl, by omega, by omega⟩
    exact bQ.mk d4.wf (k n _ h0 h1 d4)

abbrev s__law_loans : Stmt := topS 24
abbrev N__law_loans : List Str := ["_law_state_here", "_law_found"]
theorem sc__law_loans : FnScope N__law_loans ["_law_state_here"] (defScope s__law_loans) := ⟨rfl, rfl, rfl, by decide +kernel, rfl, by decide +kernel, by decide +kernel⟩
def sp__law_loans (K : PySem.W.Frag) (c : Ad) : Sp := fun vs H Q E => arg1 (fun s => ∃ a, s = .ref a ∧ St2 H a ∧ Wf H ∧ ∀ R l0 l1 l2 l3 l4 H', Dr a H H' → H' R = some (.lst [.int l0, .int l1, .int l2, .int l3, .int l4]) → R ≠ a → 0 ≤ l0 → l0 < l1 → l1 < l2 → l2 < l3 → l3 < l4 → Q (.ref R) H') vs
theorem ok__law_loans {P : Program} {w : World} {K : PySem.W.Frag} {mg : Str → Option Value} {base : Heap} {c : Ad} (T : Txt K mg c) : Ok P w K mg base 3 "_law_loans" ["_law_state_here"] (sp__law_loans K c) := by
  refine okF T.f__law_loans sc__law_loans (fun vs H Q E h => ?_) (fun f cdv A outer sh H vs Q E hr h => ?_)
  · obtain ⟨s, rfl, h⟩ := arg1.ex h
    rfl
  · obtain ⟨s, rfl, h⟩ := arg1.ex h
    have tk : Takes (cxOf (L2.CX P w) P w K mg base N__law_loans "_law_loans" (defScope s__law_loans) f cdv A outer sh H (bE H E)) (fun cls d _ H' => bE H E cls d H') := takes_of rfl rfl rfl rfl
    refine ⟨_, pss_cons (ps_set (i := 1) sc__law_loans.nd rfl (.inl rfl) (pe_lst (pa_cons pe_int (pa_cons (pe_op (opU_add (K := K)) pe_int (pe_f (ok__law_digit (K := K) T) hr passL (pa_cons (lv 0) (pa_cons pe_int pa_nil)))) (pa_cons (pe_op (opU_add (K := K)) pe_int (pe_f (ok__law_digit (K := K) T) hr passL (pa_cons (lv 0) (pa_cons pe_int pa_nil)))) (pa_cons (pe_op (opU_add (K := K)) pe_int (pe_f (ok__law_digit (K := K) T) hr passL (pa_cons (lv 0) (pa_cons (pe_op opU_pow pe_int pe_int) pa_nil)))) pa_nil))))))
      (pss_one (ps_ret (pe_op (opU_add (K := K)) (lv 1) (pe_lst (pa_cons (pe_op (opU_add (K := K)) (pe_op opU_pow pe_int pe_int) (pe_f (ok__law_digit (K := K) T) hr passL (pa_cons (lv 0) (pa_cons (pe_op opU_pow pe_int pe_int) pa_nil)))) pa_nil))))), ?_⟩
    obtain ⟨a, rfl, s0, wf, k⟩ := h
    have d0 := Dr.refl s0 wf
    refine ⟨a, 3, rfl, rfl, d0.st, bas_lt (by decide) (by decide), d0.wf, fun r1 p1 q1 g1 l1 n1 => ?_⟩
    have d1 := d0.drawn (q := q1) n1
    generalize upd H a (stL p1 q1) = H1 at d1  ⊢
    refine ⟨a, 90, rfl, rfl, d1.st, bas_lt (by decide) (by decide), d1.wf, fun r2 p2 q2 g2 l2 n2 => ?_⟩
    have d2 := d1.drawn (q := q2) n2
    generalize upd H1 a (stL p2 q2) = H2 at d2  ⊢
    refine ⟨⟨by decide, by decide, by decide⟩, ?_⟩
    refine ⟨a, _, rfl, rfl, d2.st, bas_lt (by decide) (by decide), d2.wf, fun r3 p3 q3 g3 l3 n3 => ?_⟩
    have d3 := d2.drawn (q := q3) n3
    generalize upd H2 a (stL p3 q3) = H3 at d3  ⊢
    have l3' : r3 < 1000000 := l3
    refine ⟨line_of (show 4 ≤ 16777216 by decide), fun x1 nx1 => ?_⟩
    have nex1 := st_ne d3.st nx1
    have d4 := d3.new (p := x1) (o := .lst [.int 0, .int (1 + r1), .int (9 + r2), .int (100 + r3)]) nx1 trivial
    have ex1 : (upd H3 x1 (.lst [.int 0, .int (1 + r1), .int (9 + r2), .int (100 + r3)])) x1 = some (.lst [.int 0, .int (1 + r1), .int (9 + r2), .int (100 + r3)]) := upd_same
    generalize upd H3 x1 (.lst [.int 0, .int (1 + r1), .int (9 + r2), .int (100 + r3)]) = H4 at d4 ex1  ⊢
    refine ⟨⟨by decide, by decide, by decide⟩, ⟨by decide, by decide, by decide⟩, ?_⟩
    refine ⟨a, _, rfl, rfl, d4.st, bas_lt (by decide) (by decide), d4.wf, fun r5 p5 q5 g5 l5 n5 => ?_⟩
    have d5 := d4.drawn (q := q5) n5
    replace ex1 := (upd_ne (o := stL p5 q5) nex1).trans ex1
    generalize upd H4 a (stL p5 q5) = H5 at d5 ex1 ⊢
    refine ⟨line_of (show 1 ≤ 16777216 by decide), fun x2 nx2 => ?_⟩
    have nex2 := st_ne d5.st nx2
    have d6 := d5.new (p := x2) (o := .lst [.int (10 ^ Int.toNat 7 + r5)]) nx2 trivial
    replace ex1 := same_new (o := .lst [.int (10 ^ Int.toNat 7 + r5)]) nx2 _ _ ex1
    have ex2 : (upd H5 x2 (.lst [.int (10 ^ Int.toNat 7 + r5)])) x2 = some (.lst [.int (10 ^ Int.toNat 7 + r5)]) := upd_same
    generalize upd H5 x2 (.lst [.int (10 ^ Int.toNat 7 + r5)]) = H6 at d6 ex2 ex1 ⊢
    refine .inl ⟨x1, x2, _, _, rfl, rfl, ex1, ex2, line_of (show 5 ≤ 16777216 by decide), fun y ny => ?_⟩
    have ney := st_ne d6.st ny
    have d7 := d6.new (p := y) (o := .lst ([V.int 0, .int (1 + r1), .int (9 + r2), .int (100 + r3)] ++ [V.int (10 ^ Int.toNat 7 + r5)])) ny trivial
    have ey : (upd H6 y (.lst ([V.int 0, .int (1 + r1), .int (9 + r2), .int (100 + r3)] ++ [V.int (10 ^ Int.toNat 7 + r5)]))) y = some (.lst ([V.int 0, .int (1 + r1), .int (9 + r2), .int (100 + r3)] ++ [V.int (10 ^ Int.toNat 7 + r5)])) := upd_same
    generalize upd H6 y (.lst ([V.int 0, .int (1 + r1), .int (9 + r2), .int (100 + r3)] ++ [V.int (10 ^ Int.toNat 7 + r5)])) = H7 at d7 ey  ⊢
    have e7 : (10 : Int) ^ Int.toNat 7 = 10000000 := by decide
    rw [e7] at ey
    exact bQ.mk d7.wf (k y 0 (1 + r1) (9 + r2) (100 + r3) (10000000 + r5) _ d7 ey ney (by omega) (by omega) (by omega) (by omega) (by omega))

def tellsI (es : List (Int × Int)) (ap cl : Int) : List Int := PySem.W.sortI ((es.filter fun p => decide (cl - ap < p.2)).map (·.1))
theorem kvI_at {es : List (Int × Int)} {i : Nat} {x y : V} (hx : ((kvI es)[i]?.map fun kv => kV kv.1) = some x) (hy : ((kvI es)[i]?.map Prod.snd) = some y) : ∃ l e, es[i]? = some (l, e) ∧ x = .int l ∧ y = .int e := by
  unfold kvI at hx hy
  rw [List.getElem?_map] at hx hy
  cases h : es[i]? with
  | none => rw [h] at hx; cases hx
  | some p =>
    rw [h] at hx hy
    cases hx
    cases hy
    exact ⟨p.1, p.2, rfl, rfl, rfl⟩
theorem take_snoc {α : Type} {es : List α} {i : Nat} {p : α} (h : es[i]? = some p) : es.take (i + 1) = es.take i ++ [p] := by
  rw [List.take_succ, h]
  rfl

abbrev s_Hand_forgets : Stmt := inClass (topS 15) 3
abbrev N_Hand_forgets : List Str := ["self", "loan"]
theorem sc_Hand_forgets : FnScope N_Hand_forgets ["self", "loan"] (defScope s_Hand_forgets) := ⟨rfl, rfl, rfl, by decide +kernel, rfl, by decide +kernel, by decide +kernel⟩
def cr_Hand_forgets (c : Ad) (C : Addr) : Prop := C = c.Hand
def sp_Hand_forgets (K : PySem.W.Frag) (c : Ad) (C : Addr) : Sp := fun vs H Q E => arg2 (fun s v => ∃ x nm ap es, s = .ref x ∧ C = c.Hand ∧ HandAt C H x nm ap es ∧ Wf H ∧ ((∃ n e, v = .int n ∧ 0 ≤ n ∧ valI es n = some e ∧ ∀ dx dk, H x = some (.ins C dx (fsH nm ap dk)) → H dk = some (.dK (kvI es)) → Q .non (upd H dk (.dK (kvI (dropI es n))))) ∨ (Kn K H v ∧ (∀ n, v = .int n → 0 ≤ n → valI es n = none) ∧ E (.ref c.NoLoan) none H))) vs
theorem ok_Hand_forgets {P : Program} {w : World} {K : PySem.W.Frag} {mg : Str → Option Value} {base : Heap} {c : Ad} (T : Txt K mg c) {C : Addr} (hC : cr_Hand_forgets c C) : OkM P w K mg base 4 C "forgets" ["self", "loan"] (sp_Hand_forgets K c C) := by
  have F : MtAt K C "forgets" "Hand.forgets" s_Hand_forgets ["self", "loan"] := by
    rcases hC with rfl
    · exact T.m_Hand_forgets
  have cl : Cls K C := by
    rcases hC with rfl
    · exact T.o_Hand.cl
  have n_name : NoAttr K C "name" := by
    rcases hC with rfl
    · exact T.n_Hand_name
  have n_apart : NoAttr K C "apart" := by
    rcases hC with rfl
    · exact T.n_Hand_apart
  have n_kept : NoAttr K C "kept" := by
    rcases hC with rfl
    · exact T.n_Hand_kept
  refine okM F sc_Hand_forgets (fun vs H Q E h => ?_) (fun f cdv A outer sh H vs Q E hr h => ?_)
  · obtain ⟨s, v, rfl, h⟩ := arg2.ex h
    rfl
  · obtain ⟨s, v, rfl, h⟩ := arg2.ex h
    have tk : Takes (cxOf (L2.CX P w) P w K mg base N_Hand_forgets "Hand.forgets" (defScope s_Hand_forgets) f cdv A outer sh H (bE H E)) (fun cls d _ H' => bE H E cls d H') := takes_of rfl rfl rfl rfl
    refine ⟨_, pss_cons (ps_expr (pe_mS (CS := cs_Hand c) (lv 0) (okc_Hand T) (okm_Hand_end_of T) hr tk (pa_cons (lv 1) pa_nil)))
      (pss_one (ps_expr (pe_dpop1 (pe_fldK (K := K) (lv 0) rfl) (lv 1) ⟨by rfl, by rfl, by rfl, by rfl⟩))), ?_⟩
    obtain ⟨x, nm, ap, es, rfl, eC, ha, wf, g0⟩ := h
    obtain ⟨dx, dk, hx, hd⟩ := id ha
    subst eC
    rcases g0 with ⟨n, e, rfl, n0, hv, k⟩ | ⟨hk, hn, k⟩
    · refine ⟨x, c.Hand, dx, _, rfl, hx, rfl, rfl, x, nm, ap, es, rfl, rfl, ha, wf, .inl ⟨n, e, rfl, n0, hv, ?_⟩⟩
      refine ⟨x, c.Hand, dx, _, _, rfl, hx, T.o_Hand.cl, T.n_Hand_kept, rfl, ?_⟩
      refine ⟨dk, rfl, .inl ⟨_, .inl hd⟩, kvI es, .inl n, .int e, hd, rfl, by rw [kvI_val, hv]; rfl, ?_⟩
      rw [kvI_drop]
      exact bQ.mk (wf.at trivial hd fun _ z => by cases z) (k dx dk hx hd)
    · refine ⟨x, c.Hand, dx, _, rfl, hx, rfl, rfl, x, nm, ap, es, rfl, rfl, ha, wf, .inr ⟨hk, hn, ?_⟩⟩
      exact bE.same wf (Same.refl _) k
theorem okm_Hand_forgets {P : Program} {w : World} {K : PySem.W.Frag} {mg : Str → Option Value} {base : Heap} {c : Ad} (T : Txt K mg c) : ∀ C, cs_Hand c C → OkM P w K mg base 4 C "forgets" ["self", "loan"] (sp_Hand_forgets K c C) := fun C h => ok_Hand_forgets T (by
  have e : C = c.Hand := h
  exact e)

abbrev s_Hand_tells : Stmt := inClass (topS 15) 7
abbrev N_Hand_tells : List Str := ["self", "clock", "loan", "end"]
theorem sc_Hand_tells : FnScope N_Hand_tells ["self", "clock"] (defScope s_Hand_tells) := ⟨rfl, rfl, rfl, by decide +kernel, rfl, by decide +kernel, by decide +kernel⟩
def cr_Hand_tells (c : Ad) (C : Addr) : Prop := C = c.Hand
def sp_Hand_tells (K : PySem.W.Frag) (c : Ad) (C : Addr) : Sp := fun vs H Q E => arg2 (fun s u => ∃ x nm ap es, s = .ref x ∧ C = c.Hand ∧ HandAt C H x nm ap es ∧ es.length ≤ 1000 ∧ Wf H ∧ ((∃ cl, u = .int cl ∧ 0 ≤ cl ∧ ∀ p H', H' p = some (.lst ((tellsI es ap cl).map V.int)) → H p = none → Same H H' → Wf H' → Q (.ref p) H') ∨ (Kn K H u ∧ isCountB u = false ∧ E (.ref c.NoMoment) none H))) vs
theorem ok_Hand_tells {P : Program} {w : World} {K : PySem.W.Frag} {mg : Str → Option Value} {base : Heap} {c : Ad} (T : Txt K mg c) {C : Addr} (hC : cr_Hand_tells c C) : OkM P w K mg base 4 C "tells" ["self", "clock"] (sp_Hand_tells K c C) := by
  have F : MtAt K C "tells" "Hand.tells" s_Hand_tells ["self", "clock"] := by
    rcases hC with rfl
    · exact T.m_Hand_tells
  have cl : Cls K C := by
    rcases hC with rfl
    · exact T.o_Hand.cl
  have n_name : NoAttr K C "name" := by
    rcases hC with rfl
    · exact T.n_Hand_name
  have n_apart : NoAttr K C "apart" := by
    rcases hC with rfl
    · exact T.n_Hand_apart
  have n_kept : NoAttr K C "kept" := by
    rcases hC with rfl
    · exact T.n_Hand_kept
  refine okM F sc_Hand_tells (fun vs H Q E h => ?_) (fun f cdv A outer sh H vs Q E hr h => ?_)
  · obtain ⟨s, u, rfl, h⟩ := arg2.ex h
    rfl
  · obtain ⟨s, u, rfl, h⟩ := arg2.ex h
    have tk : Takes (cxOf (L2.CX P w) P w K mg base N_Hand_tells "Hand.tells" (defScope s_Hand_tells) f cdv A outer sh H (bE H E)) (fun cls d _ H' => bE H E cls d H') := takes_of rfl rfl rfl rfl
    refine ⟨_, pss_cons (ps_expr (pe_fS (ok_sure_clock (K := K) T) hr tk (pa_cons (lv 1) pa_nil)))
      (pss_one (ps_ret (pe_callB cr_sortedI (by rfl) T.m_sorted (by decide +kernel) (pa_cons (pe_lock (pe_lc (own := [("loan", 2), ("end", 3)]) (g := _) rfl sc_Hand_tells.nd (pi_items (pe_fldK (K := K) (lv 0) rfl)) (blkOk_by (own := [("loan", 2), ("end", 3)]) (N := N_Hand_tells) (sc := defScope s_Hand_tells) (by decide +kernel)) (fun _ _ _ _ _ => pg_tupK (K := K) (n := 2) rfl (pgs_cons (pg_name (i := 2) sc_Hand_tells.nd rfl (.inl rfl)) (pgs_cons (pg_name (i := 3) sc_Hand_tells.nd rfl (.inl rfl)) pgs_nil))) (fun _ _ _ _ _ => pts_one (pt_cmpU opU_lt (pe_op opU_sub (lv 1) (pe_fldK (K := K) (lv 0) rfl)) (lv 3) (nomark _))) (fun _ _ _ _ _ => lv 2))) pa_nil)))), ?_⟩
    obtain ⟨x, nm, ap, es, rfl, eC, ha, le, wf, g0⟩ := h
    obtain ⟨dx, dk, hx, hd⟩ := id ha
    subst eC
    rcases g0 with ⟨cl, rfl, c0, k⟩ | ⟨hk, hn, k⟩
    · refine ⟨trivial, wf, fun _ => ?_, fun z => by rw [count_ok c0] at z; cases z⟩
      have nxd : x ≠ dk := ne_of hx hd fun z => by cases z
      refine ⟨dk, _, hd, trivial, fun od => ?_⟩
      have hx1 : (upd H dk (.frz od (.dK (kvI es)))) x = some (.ins c.Hand dx (fsH nm ap dk)) := by rw [upd_ne nxd]; exact hx
      have hd1 : (upd H dk (.frz od (.dK (kvI es)))) dk = some (.frz od (.dK (kvI es))) := upd_same
      have kp1 : ∀ b o, b ≠ dk → H b = some o → (upd H dk (.frz od (.dK (kvI es)))) b = some o := fun b o n e => by rw [upd_ne n]; exact e
      have w1 : Wf (upd H dk (.frz od (.dK (kvI es)))) := wf.at trivial hd fun _ z => by cases z
      have nn1 : ∀ b, (upd H dk (.frz od (.dK (kvI es)))) b = none → H b = none := fun b e => by
        have : b ≠ dk := fun z => by rw [z, hd1] at e; cases e
        rw [upd_ne this] at e
        exact e
      generalize upd H dk (.frz od (.dK (kvI es))) = H1 at hx1 hd1 kp1 w1 nn1 ⊢
      refine ⟨x, c.Hand, dx, _, _, rfl, hx1, T.o_Hand.cl, T.n_Hand_kept, rfl, ?_⟩
      refine ⟨dk, od, kvI es, rfl, hd1, fun D nD => ?_⟩
      have nDd : D ≠ dk := fun z => by rw [z, hd1] at nD; cases nD
      refine lc_it (walk_items (d := dk) (o := od) (kvs := kvI es)) (fun i H' => H' D = some (.lst (((es.take i).filter fun p => decide (cl - ap < p.2)).map fun p => V.int p.1)) ∧ Same H1 H' ∧ Wf H') ⟨upd_same, same_new nD, w1.new trivial nD⟩ (fun i H' _ h => h.2.1 _ _ hd1) (fun i v H2 H3 hi hp hy => ?_) (fun H' hp => ?_)
      · obtain ⟨eD, sm, w2⟩ := hp
        obtain ⟨t, x1, y1, rfl, nt, rfl, hx2, hy2⟩ := hy
        obtain ⟨l, e, hes, rfl, rfl⟩ := kvI_at hx2 hy2
        have smT := same_new (o := .tup [.int l, .int e]) nt
        have w3 := w2.new (o := .tup [.int l, .int e]) trivial nt
        have et : (upd H2 t (.tup [.int l, .int e])) t = some (.tup [.int l, .int e]) := upd_same
        have eD3 := smT _ _ eD
        have sm3 := sm.trans smT
        generalize upd H2 t (.tup [.int l, .int e]) = H3 at w3 et eD3 sm3 ⊢
        refine ⟨t, _, rfl, .inl (.inl et), rfl, _, _, rfl, _, _, rfl, rfl, rfl, ?_⟩
        refine ⟨x, c.Hand, dx, _, _, rfl, sm3 _ _ hx1, T.o_Hand.cl, T.n_Hand_apart, rfl, ?_⟩
        have lacc : (((es.take i).filter fun p => decide (cl - ap < p.2)).map fun p => V.int p.1).length < sizeLine := line_lt (by
          rw [List.length_map]
          have := List.length_filter_le (fun p : Int × Int => decide (cl - ap < p.2)) (es.take i)
          rw [List.length_take] at this
          omega)
        refine iteC (p := cl - ap < e) (fun h1 => ?_) (fun h1 => ?_)
        · refine ⟨_, eD3, lacc, ?_, fun b o eb => ?_, ?_⟩
          · rw [upd_same, take_snoc hes, List.filter_append, List.map_append]
            simp [h1]
          · rw [upd_ne (ne_of_none eb nD)]
            exact sm3 b o eb
          · exact w3.at trivial eD3 fun _ z => by cases z
        · refine ⟨?_, sm3, w3⟩
          rw [take_snoc hes, List.filter_append, List.map_append]
          simp [h1]
          simpa using eD3
      · obtain ⟨eD, sm, w2⟩ := hp
        have hd2 := sm _ _ hd1
        refine ⟨hd2, ?_⟩
        rw [kvI_len, List.take_length] at eD
        have sm2 : Same H (upd H' dk (.dK (kvI es))) := fun b o e => by
          by_cases hb : b = dk
          · subst hb
            rw [hd] at e
            cases e
            exact upd_same
          · rw [upd_ne hb]
            exact sm _ _ (kp1 b o hb e)
        have w3 : Wf (upd H' dk (.dK (kvI es))) := w2.at trivial hd2 fun _ z => by cases z
        have eD2 : (upd H' dk (.dK (kvI es))) D = some (.lst (((es.filter fun p => decide (cl - ap < p.2)).map (·.1)).map V.int)) := by
          rw [upd_ne nDd, eD, List.map_map]
          rfl
        generalize upd H' dk (.dK (kvI es)) = H4 at sm2 w3 eD2 ⊢
        refine ⟨D, _, rfl, .inl (.inl eD2), fun ns' p perm srt np => ?_⟩
        have en : ns' = tellsI es ap cl := PySem.W.eq_sortI perm srt
        subst en
        have npH : H p = none := by
          cases e : H p with
          | none => rfl
          | some o =>
            have := sm2 p o e
            rw [np] at this
            cases this
        exact bQ.mk (w3.new trivial np) (k p _ upd_same npH (sm2.trans (same_new np)) (w3.new trivial np))
    · refine ⟨hk, wf, fun z => (by rw [hn] at z; cases z), fun _ => ?_⟩
      exact bE.same wf (Same.refl _) k
theorem okm_Hand_tells {P : Program} {w : World} {K : PySem.W.Frag} {mg : Str → Option Value} {base : Heap} {c : Ad} (T : Txt K mg c) : ∀ C, cs_Hand c C → OkM P w K mg base 4 C "tells" ["self", "clock"] (sp_Hand_tells K c C) := fun C h => ok_Hand_tells T (by
  have e : C = c.Hand := h
  exact e)

def leastP : List (Int × Int) → Option (Int × Int)
  | [] => none
  | p :: r => some (match leastP r with | none => p | some q => if SrtO.lexB q p then q else p)
theorem leastP_of : ∀ {ps : List (Int × Int)} {y : Int × Int}, y ∈ ps → (∀ q ∈ ps, SrtO.lexB q y = false) → leastP ps = some y
  | p :: r, y, hy, h => by
    show some _ = some y
    congr 1
    have key : ∀ {a b : Int × Int}, SrtO.lexB a b = false → SrtO.lexB b a = false → a = b := fun {a b} h1 h2 => by
      have h1 := SrtO.lexB_no.mp h1
      have h2 := SrtO.lexB_no.mp h2
      have : a.1 = b.1 ∧ a.2 = b.2 := by omega
      exact Prod.ext this.1 this.2
    by_cases hr : y ∈ r
    · rw [leastP_of hr fun q hq => h q (List.mem_cons_of_mem _ hq)]
      show (if SrtO.lexB y p then y else p) = y
      split
      · rfl
      · rename_i g
        exact key (h p List.mem_cons_self) (by simpa using g)
    · have : y = p := by
        rcases List.mem_cons.mp hy with e | e
        · exact e
        · exact absurd e hr
      subst this
      cases e : leastP r with
      | none => rfl
      | some q =>
        show (if SrtO.lexB q y then q else y) = y
        have hq : q ∈ r := by
          clear h hy hr
          induction r generalizing q with
          | nil => cases e
          | cons a r ih =>
            have e' : some (match leastP r with | none => a | some q => if SrtO.lexB q a then q else a) = some q := e
            cases er : leastP r with
            | none =>
              rw [er] at e'
              cases e'
              exact List.mem_cons_self
            | some q' =>
              rw [er] at e'
              have e2 := Option.some.inj e'
              have e3 : (if SrtO.lexB q' a then q' else a) = q := e2
              split at e3
              · subst e3
                exact List.mem_cons_of_mem _ (ih _ er)
              · subst e3
                exact List.mem_cons_self
        rw [if_neg (by rw [h q (List.mem_cons_of_mem _ hq)]; exact Bool.false_ne_true)]
/-- the loan of the least end, of like ones of the least number -/
def soonI (es : List (Int × Int)) : Option Int := (leastP (es.map fun p => (p.2, p.1))).map (·.2)
def optI : Option Int → V | none => .non | some n => .int n
def kOf (H : Hp) (v : V) : Int × Int := match v with
  | .ref t => (match H t with | some (.tup [.int a, .int b]) => (a, b) | _ => (0, 0))
  | _ => (0, 0)
theorem pairs_shaped (ps : List (Int × Int)) : SeqAt.shaped (.list (ps.map fun p => .tuple [.int p.1, .int p.2])) = true := by
  have h1 : PyData.canLayAll0 (ps.map fun p => .tuple [.int p.1, .int p.2]) = true := by
    induction ps with
    | nil => rfl
    | cons p r ih =>
      show (true && _) = true
      rw [ih]
      rfl
  have h2 : PyData.depthAll (ps.map fun p => .tuple [.int p.1, .int p.2]) ≤ 1 := by
    clear h1
    induction ps with
    | nil => exact Nat.zero_le _
    | cons p r ih =>
      show max 1 _ ≤ 1
      omega
  unfold SeqAt.shaped
  show (PyData.canLayAll0 _ && decide (PyData.depthAll _ + 1 ≤ 64)) = true
  rw [h1, decide_eq_true (by omega)]
  rfl
theorem pairs_dp {K : PySem.W.Frag} {H : Hp} {k : V → Int × Int} : ∀ {ys : List V}, (∀ y ∈ ys, ∃ t, y = V.ref t ∧ H t = some (.tup [.int (k y).1, .int (k y).2])) → DpAll K H ys ((ys.map k).map fun p => .tuple [.int p.1, .int p.2])
  | [], _ => .nil
  | y :: r, h => by
    obtain ⟨t, e, ht⟩ := h y List.mem_cons_self
    refine .cons ?_ (pairs_dp fun x hx => h x (List.mem_cons_of_mem _ hx))
    rw [show y = V.ref t from e]
    rw [e] at ht
    exact .tup (.inl (.inl ht)) (.cons (.int _) (.cons (.int _) .nil))

abbrev s_Hand_soonest : Stmt := inClass (topS 15) 8
abbrev N_Hand_soonest : List Str := ["self", "rows", "loan", "end"]
theorem sc_Hand_soonest : FnScope N_Hand_soonest ["self"] (defScope s_Hand_soonest) := ⟨rfl, rfl, rfl, by decide +kernel, rfl, by decide +kernel, by decide +kernel⟩
def cr_Hand_soonest (c : Ad) (C : Addr) : Prop := C = c.Hand
def sp_Hand_soonest (K : PySem.W.Frag) (c : Ad) (C : Addr) : Sp := fun vs H Q E => arg1 (fun s => ∃ x nm ap es, s = .ref x ∧ C = c.Hand ∧ HandAt C H x nm ap es ∧ es.length ≤ 1000 ∧ Wf H ∧ Q (optI (soonI es)) H) vs
theorem ok_Hand_soonest {P : Program} {w : World} {K : PySem.W.Frag} {mg : Str → Option Value} {base : Heap} {c : Ad} (T : Txt K mg c) {C : Addr} (hC : cr_Hand_soonest c C) : OkM P w K mg base 1 C "soonest" ["self"] (sp_Hand_soonest K c C) := by
  have F : MtAt K C "soonest" "Hand.soonest" s_Hand_soonest ["self"] := by
    rcases hC with rfl
    · exact T.m_Hand_soonest
  have cl : Cls K C := by
    rcases hC with rfl
    · exact T.o_Hand.cl
  have n_name : NoAttr K C "name" := by
    rcases hC with rfl
    · exact T.n_Hand_name
  have n_apart : NoAttr K C "apart" := by
    rcases hC with rfl
    · exact T.n_Hand_apart
  have n_kept : NoAttr K C "kept" := by
    rcases hC with rfl
    · exact T.n_Hand_kept
  refine okM F sc_Hand_soonest (fun vs H Q E h => ?_) (fun f cdv A outer sh H vs Q E hr h => ?_)
  · obtain ⟨s, rfl, h⟩ := arg1.ex h
    rfl
  · obtain ⟨s, rfl, h⟩ := arg1.ex h
    have tk : Takes (cxOf (L2.CX P w) P w K mg base N_Hand_soonest "Hand.soonest" (defScope s_Hand_soonest) f cdv A outer sh H (bE H E)) (fun cls d _ H' => bE H E cls d H') := takes_of rfl rfl rfl rfl
    refine ⟨_, pss_cons (ps_set (i := 1) sc_Hand_soonest.nd rfl (.inl rfl) (pe_callB cr_sortedPO (by rfl) T.m_sorted (by decide +kernel) (pa_cons (pe_lock (pe_lc (own := [("loan", 2), ("end", 3)]) (g := _) rfl sc_Hand_soonest.nd (pi_items (pe_fldK (K := K) (lv 0) rfl)) (blkOk_by (own := [("loan", 2), ("end", 3)]) (N := N_Hand_soonest) (sc := defScope s_Hand_soonest) (by decide +kernel)) (fun _ _ _ _ _ => pg_tupK (K := K) (n := 2) rfl (pgs_cons (pg_name (i := 2) sc_Hand_soonest.nd rfl (.inl rfl)) (pgs_cons (pg_name (i := 3) sc_Hand_soonest.nd rfl (.inl rfl)) pgs_nil))) (fun _ _ _ _ _ => pts_nil) (fun _ _ _ _ _ => pe_tup (pa_cons (lv 3) (pa_cons (lv 2) pa_nil))))) pa_nil)))
      (pss_cons (ps_if (pt_cmpU (opU_eq (K := K) hr) (lv 1) (pe_lst pa_nil) (nomark _))
      (pss_one (ps_ret pe_non)) pss_nil)
      (pss_one (ps_ret (pe_ix (ixU (K := K)) (pe_ix (ixU (K := K)) (lv 1) pe_int (fun _ _ => rfl)) pe_int (fun _ _ => rfl))))), ?_⟩
    obtain ⟨x, nm, ap, es, rfl, eC, ha, le, wf, k⟩ := h
    obtain ⟨dx, dk, hx, hd⟩ := id ha
    subst eC
    have nxd : x ≠ dk := ne_of hx hd fun z => by cases z
    refine ⟨dk, _, hd, trivial, fun od => ?_⟩
    have hx1 : (upd H dk (.frz od (.dK (kvI es)))) x = some (.ins c.Hand dx (fsH nm ap dk)) := by rw [upd_ne nxd]; exact hx
    have hd1 : (upd H dk (.frz od (.dK (kvI es)))) dk = some (.frz od (.dK (kvI es))) := upd_same
    have kp1 : ∀ b o, b ≠ dk → H b = some o → (upd H dk (.frz od (.dK (kvI es)))) b = some o := fun b o n e => by rw [upd_ne n]; exact e
    have w1 : Wf (upd H dk (.frz od (.dK (kvI es)))) := wf.at trivial hd fun _ z => by cases z
    generalize upd H dk (.frz od (.dK (kvI es))) = H1 at hx1 hd1 kp1 w1 ⊢
    refine ⟨x, c.Hand, dx, _, _, rfl, hx1, T.o_Hand.cl, T.n_Hand_kept, rfl, ?_⟩
    refine ⟨dk, od, kvI es, rfl, hd1, fun D nD => ?_⟩
    have nDd : D ≠ dk := fun z => by rw [z, hd1] at nD; cases nD
    refine lc_it (walk_items (d := dk) (o := od) (kvs := kvI es)) (fun i H' => ∃ vs : List V, H' D = some (.lst vs) ∧ Al2 (fun v (p : Int × Int) => ∃ t, v = .ref t ∧ H' t = some (.tup [.int p.2, .int p.1])) vs (es.take i) ∧ Same H1 H' ∧ Wf H') ⟨[], upd_same, .nil, same_new nD, w1.new trivial nD⟩ (fun i H' _ h => by obtain ⟨_, _, _, h, _⟩ := h; exact h _ _ hd1) (fun i v H2 H3 hi hp hy => ?_) (fun H' hp => ?_)
    · obtain ⟨vs, eD, hal, sm, w2⟩ := hp
      obtain ⟨t, x1, y1, rfl, nt, rfl, hx2, hy2⟩ := hy
      obtain ⟨l, e, hes, rfl, rfl⟩ := kvI_at hx2 hy2
      have smT := same_new (o := .tup [.int l, .int e]) nt
      have w3 := w2.new (o := .tup [.int l, .int e]) trivial nt
      have et : (upd H2 t (.tup [.int l, .int e])) t = some (.tup [.int l, .int e]) := upd_same
      replace eD := smT _ _ eD
      have sm3 := sm.trans smT
      replace hal := hal.mono (P' := fun v (p : Int × Int) => ∃ t', v = .ref t' ∧ (upd H2 t (.tup [.int l, .int e])) t' = some (.tup [.int p.2, .int p.1])) fun v p ⟨t', e1, e2⟩ => ⟨t', e1, smT _ _ e2⟩
      generalize upd H2 t (.tup [.int l, .int e]) = H3 at w3 et eD sm3 hal ⊢
      refine ⟨t, _, rfl, .inl (.inl et), rfl, _, _, rfl, _, _, rfl, rfl, rfl, ?_⟩
      refine ⟨line_of (show 2 ≤ 16777216 by decide), fun q nq => ?_⟩
      have smQ := same_new (o := .tup [.int e, .int l]) nq
      have w4 := w3.new (o := .tup [.int e, .int l]) trivial nq
      have eq : (upd H3 q (.tup [.int e, .int l])) q = some (.tup [.int e, .int l]) := upd_same
      replace eD := smQ _ _ eD
      have sm4 := sm3.trans smQ
      replace hal := hal.mono (P' := fun v (p : Int × Int) => ∃ t', v = .ref t' ∧ (upd H3 q (.tup [.int e, .int l])) t' = some (.tup [.int p.2, .int p.1])) fun v p ⟨t', e1, e2⟩ => ⟨t', e1, smQ _ _ e2⟩
      generalize upd H3 q (.tup [.int e, .int l]) = H4 at w4 eq eD sm4 hal ⊢
      have lv : vs.length ≤ 1000 := by
        rw [hal.len, List.length_take]
        omega
      refine ⟨vs, eD, line_lt (by omega), vs ++ [V.ref q], upd_same, ?_, fun b o eb => ?_, w4.at trivial eD fun _ z => by cases z⟩
      · rw [take_snoc hes]
        have f : ∀ (v : V) (p : Int × Int), (∃ t', v = .ref t' ∧ H4 t' = some (.tup [.int p.2, .int p.1])) → ∃ t', v = .ref t' ∧ (upd H4 D (.lst (vs ++ [V.ref q]))) t' = some (.tup [.int p.2, .int p.1]) := fun v p ⟨t', e1, e2⟩ => ⟨t', e1, by rw [upd_ne (ne_of e2 eD fun z => by cases z)]; exact e2⟩
        exact (hal.mono f).snoc (f _ _ ⟨q, rfl, eq⟩)
      · rw [upd_ne (ne_of_none eb nD)]
        exact sm4 b o eb
    · obtain ⟨vs, eD, hal, sm, w2⟩ := hp
      have hd2 := sm _ _ hd1
      refine ⟨hd2, ?_⟩
      rw [kvI_len, List.take_length] at hal
      have sm2 : Same H (upd H' dk (.dK (kvI es))) := fun b o e => by
        by_cases hb : b = dk
        · subst hb
          rw [hd] at e
          cases e
          exact upd_same
        · rw [upd_ne hb]
          exact sm _ _ (kp1 b o hb e)
      have w3 : Wf (upd H' dk (.dK (kvI es))) := w2.at trivial hd2 fun _ z => by cases z
      have eD2 : (upd H' dk (.dK (kvI es))) D = some (.lst vs) := by
        rw [upd_ne nDd, eD]
      replace hal := hal.mono (P' := fun v (p : Int × Int) => ∃ t', v = .ref t' ∧ (upd H' dk (.dK (kvI es))) t' = some (.tup [.int p.2, .int p.1])) fun v p ⟨t', e1, e2⟩ => ⟨t', e1, by rw [upd_ne (ne_of e2 hd2 fun z => by cases z)]; exact e2⟩
      generalize upd H' dk (.dK (kvI es)) = H4 at sm2 w3 eD2 hal ⊢
      have hk : ∀ {v : V} {p : Int × Int}, (∃ t', v = .ref t' ∧ H4 t' = some (.tup [.int p.2, .int p.1])) → kOf H4 v = (p.2, p.1) := fun {v p} ⟨t', e1, e2⟩ => by
        subst e1
        unfold kOf
        simp only [e2]
      have hks : vs.map (kOf H4) = es.map fun p => (p.2, p.1) := by
        clear le k ha hd hd1 eD hd2 sm2 sm eD2
        induction hal with
        | nil => rfl
        | cons h _ ih => rw [List.map_cons, List.map_cons, hk h, ih]
      refine ⟨D, vs, kOf H4, rfl, .inl (.inl eD2), fun v hv => ?_, fun ys p srt stb np => ?_⟩
      · obtain ⟨q, hq, t', e1, e2⟩ := hal.mem hv
        refine ⟨t', e1, ?_⟩
        rw [hk ⟨t', e1, e2⟩]
        exact e2
      · have hys : ∀ y ∈ ys, ∃ t, y = V.ref t ∧ H4 t = some (.tup [.int (kOf H4 y).1, .int (kOf H4 y).2]) := fun y hy => by
          obtain ⟨q, hq, t', e1, e2⟩ := hal.mem (stb.perm.mem_iff.mp hy)
          refine ⟨t', e1, ?_⟩
          rw [hk ⟨t', e1, e2⟩]
          exact e2
        have smP := same_new (o := .lst ys) np
        have hys2 : ∀ y ∈ ys, ∃ t, y = V.ref t ∧ (upd H4 p (.lst ys)) t = some (.tup [.int (kOf H4 y).1, .int (kOf H4 y).2]) := fun y hy => by
          obtain ⟨t, e1, e2⟩ := hys y hy
          exact ⟨t, e1, smP _ _ e2⟩
        have w4 := w3.new (o := .lst ys) trivial np
        have ep : (upd H4 p (.lst ys)) p = some (.lst ys) := upd_same
        have sm4 := sm2.trans smP
        generalize upd H4 p (.lst ys) = H5 at hys2 w4 ep sm4 ⊢
        refine ⟨line_of (show 0 ≤ 16777216 by decide), fun e ne => ?_⟩
        have smE := same_new (o := .lst []) ne
        have hys3 : ∀ y ∈ ys, ∃ t, y = V.ref t ∧ (upd H5 e (.lst [])) t = some (.tup [.int (kOf H4 y).1, .int (kOf H4 y).2]) := fun y hy => by
          obtain ⟨t, e1, e2⟩ := hys2 y hy
          exact ⟨t, e1, smE _ _ e2⟩
        refine ⟨.list ((ys.map (kOf H4)).map fun p => .tuple [.int p.1, .int p.2]), .list [], .lst (.inl (.inl (smE _ _ ep))) (pairs_dp hys3), .lst (.inl (.inl upd_same)) .nil, pairs_shaped _, rfl, ?_⟩
        have ee : PyData.eqv (.list ((ys.map (kOf H4)).map fun p => .tuple [.int p.1, .int p.2])) (.list []) = ys.isEmpty := by cases ys <;> rfl
        rw [ee]
        have sm5 := sm4.trans smE
        have ep5 := smE _ _ ep
        generalize upd H5 e (.lst []) = H6 at hys3 ep5 sm5 ⊢
        cases ys with
        | nil =>
          have : es = [] := by
            have h1 := stb.perm.length_eq
            have h2 := hal.len
            cases es with
            | nil => rfl
            | cons _ _ => simp at h1 h2; omega
          subst this
          exact bQ.same wf sm5 k
        | cons y0 r =>
          refine ⟨_, y0, .inl (.inl (.inl ep5)), atI_nat (j := 0) rfl, ?_⟩
          obtain ⟨t, e1, e2⟩ := hys3 y0 List.mem_cons_self
          subst e1
          refine ⟨_, _, .inr (.inl (.inl e2)), rfl, ?_⟩
          have hl : leastP (es.map fun p => (p.2, p.1)) = some (kOf H4 (.ref t)) := by
            rw [← hks]
            refine leastP_of (List.mem_map.mpr ⟨_, stb.perm.mem_iff.mp List.mem_cons_self, rfl⟩) fun q hq => ?_
            obtain ⟨v, hv, rfl⟩ := List.mem_map.mp hq
            rcases List.mem_cons.mp (stb.perm.mem_iff.mpr hv) with e | e
            · rw [e]
              exact SrtO.lexB_no.mpr (by omega)
            · exact SrtO.srtd_head srt v e
          have hs : optI (soonI es) = .int (kOf H4 (.ref t)).2 := by
            unfold soonI
            rw [hl]
            rfl
          rw [hs] at k
          exact bQ.same wf sm5 k
theorem okm_Hand_soonest {P : Program} {w : World} {K : PySem.W.Frag} {mg : Str → Option Value} {base : Heap} {c : Ad} (T : Txt K mg c) : ∀ C, cs_Hand c C → OkM P w K mg base 1 C "soonest" ["self"] (sp_Hand_soonest K c C) := fun C h => ok_Hand_soonest T (by
  have e : C = c.Hand := h
  exact e)

def NoDup (es : List (Int × Int)) : Prop := (es.map (·.1)).Nodup
theorem valI_nodup : ∀ {es : List (Int × Int)} {i : Nat} {l e : Int}, NoDup es → es[i]? = some (l, e) → valI es l = some e
  | p :: r, 0, l, e, _, h => by
    have h2 : p = (l, e) := by simpa using h
    subst h2
    simp [valI]
  | p :: r, i + 1, l, e, n, h => by
    have h2 : r[i]? = some (l, e) := by simpa using h
    unfold NoDup at n
    rw [List.map_cons, List.nodup_cons] at n
    have hne : ¬ p.1 = l := fun z => n.1 (by
      rw [z]
      exact List.mem_map.mpr ⟨_, List.mem_of_getElem? h2, rfl⟩)
    have := valI_nodup (es := r) n.2 h2
    unfold valI at this ⊢
    rw [List.find?_cons, decide_eq_false hne]
    exact this
theorem kvI_key {es : List (Int × Int)} {i : Nat} {k : Key} {v : V} (h : (kvI es)[i]? = some (k, v)) : ∃ l e, es[i]? = some (l, e) ∧ k = .inl l ∧ v = .int e := by
  unfold kvI at h
  rw [List.getElem?_map] at h
  cases e : es[i]? with
  | none => rw [e] at h; cases h
  | some p =>
    rw [e] at h
    cases h
    exact ⟨p.1, p.2, rfl, rfl, rfl⟩

theorem ints_shaped (zs : List Int) : SeqAt.shaped (.list (zs.map .int)) = true := by
  have h1 : PyData.canLayAll0 (zs.map .int) = true := by
    induction zs with
    | nil => rfl
    | cons z r ih =>
      show (true && PyData.canLayAll0 (r.map .int)) = true
      rw [ih]
      rfl
  have h2 : PyData.depthAll (zs.map .int) = 0 := by
    clear h1
    induction zs with
    | nil => rfl
    | cons z r ih =>
      show max 0 (PyData.depthAll (r.map .int)) = 0
      rw [ih]
      rfl
  unfold SeqAt.shaped
  show (PyData.canLayAll0 (zs.map .int) && decide (PyData.depthAll (zs.map .int) + 1 ≤ 64)) = true
  rw [h1, h2]
  rfl

theorem putI_keys (es : List (Int × Int)) (n e : Int) : (putI es n e).map (·.1) = if (es.any fun p => decide (p.1 = n)) = true then es.map (·.1) else es.map (·.1) ++ [n] := by
  unfold putI
  split
  · rw [List.map_map]
    apply List.map_congr_left
    intro p _
    show (if p.1 = n then (p.1, e) else p).1 = p.1
    split <;> rfl
  · rw [List.map_append]
    rfl
theorem any_key {es : List (Int × Int)} {n : Int} (h : (es.any fun p => decide (p.1 = n)) = false) : n ∉ es.map (·.1) := fun hm => by
  obtain ⟨p, hp, e⟩ := List.mem_map.mp hm
  rw [List.any_eq_false] at h
  exact h p hp (decide_eq_true e)
theorem NoDup.put {es : List (Int × Int)} (h : NoDup es) (n e : Int) : NoDup (putI es n e) := by
  unfold NoDup
  rw [putI_keys]
  split
  · exact h
  · rename_i g
    have := any_key (Bool.eq_false_iff.mpr g)
    rw [List.nodup_append]
    refine ⟨h, by simp, ?_⟩
    intro a ha b hb e
    rw [List.mem_singleton.mp hb] at e
    subst e
    exact this ha
theorem NoDup.drop {es : List (Int × Int)} (h : NoDup es) (n : Int) : NoDup (dropI es n) := by
  unfold NoDup dropI
  exact List.Nodup.sublist (List.Sublist.map _ List.filter_sublist) h
theorem drop_len {es : List (Int × Int)} (h : NoDup es) {n : Int} (hn : (valI es n).isSome = true) : (dropI es n).length + 1 = es.length := by
  induction es with
  | nil => cases hn
  | cons p r ih =>
    unfold NoDup at h
    rw [List.map_cons, List.nodup_cons] at h
    by_cases e : p.1 = n
    · have hr : dropI r n = r := by
        unfold dropI
        rw [List.filter_eq_self]
        intro q hq
        refine decide_eq_true fun z => h.1 ?_
        rw [e, ← z]
        exact List.mem_map.mpr ⟨q, hq, rfl⟩
      have : dropI (p :: r) n = dropI r n := by
        unfold dropI
        rw [List.filter_cons, if_neg]
        simp [e]
      rw [this, hr]
      rfl
    · have hn' : (valI r n).isSome = true := by
        unfold valI at hn ⊢
        rw [List.find?_cons, decide_eq_false e] at hn
        exact hn
      have : dropI (p :: r) n = p :: dropI r n := by
        unfold dropI
        rw [List.filter_cons, if_pos]
        simp [e]
      rw [this, List.length_cons, List.length_cons, ih h.2 hn']
theorem drop_none (es : List (Int × Int)) (n : Int) : valI (dropI es n) n = none := by
  unfold valI dropI
  rw [Option.map_eq_none_iff, List.find?_eq_none]
  intro p hp
  have := (List.mem_filter.mp hp).2
  simpa using this
theorem put_new {es : List (Int × Int)} {n : Int} (h : valI es n = none) (e : Int) : putI es n e = es ++ [(n, e)] := by
  unfold putI
  rw [if_neg]
  intro z
  rw [List.any_eq_true] at z
  obtain ⟨p, hp, hd⟩ := z
  unfold valI at h
  rw [Option.map_eq_none_iff, List.find?_eq_none] at h
  exact h p hp hd
theorem drop_put {es : List (Int × Int)} {n : Int} (h : valI es n = none) (e : Int) : dropI (es ++ [(n, e)]) n = es := by
  unfold dropI
  rw [List.filter_append]
  have h1 : es.filter (fun p => decide (p.1 ≠ n)) = es := by
    rw [List.filter_eq_self]
    intro p hp
    unfold valI at h
    rw [Option.map_eq_none_iff, List.find?_eq_none] at h
    have := h p hp
    simpa using this
  rw [h1]
  simp
theorem merge_nodup : ∀ (es acc : List (Int × Int)), NoDup (acc ++ es) → mergeK (kvI acc) (kvI es) = kvI (acc ++ es)
  | [], acc, _ => by
    rw [List.append_nil]
    rfl
  | p :: r, acc, h => by
    have h1 : mergeK (kvI acc) (kvI (p :: r)) = mergeK (putK (kvI acc) (.inl p.1) (.int p.2)) (kvI r) := rfl
    rw [h1, kvI_put, put_new (es := acc) (n := p.1)]
    · have e : acc ++ p :: r = (acc ++ [(p.1, p.2)]) ++ r := by simp
      rw [e]
      exact merge_nodup r _ (by rw [← e]; exact h)
    · unfold valI
      rw [Option.map_eq_none_iff, List.find?_eq_none]
      intro q hq hd
      have hd' : q.1 = p.1 := by simpa using hd
      unfold NoDup at h
      rw [List.map_append, List.nodup_append] at h
      exact h.2.2 q.1 (List.mem_map.mpr ⟨q, hq, rfl⟩) p.1 (List.mem_map.mpr ⟨p, List.mem_cons_self, rfl⟩) hd'
theorem soon_some {es : List (Int × Int)} (h : es ≠ []) : ∃ n, soonI es = some n ∧ (valI es n).isSome = true := by
  have hm : ∀ (ps : List (Int × Int)) (y : Int × Int), leastP ps = some y → y ∈ ps := by
    intro ps
    induction ps with
    | nil => intro y e; cases e
    | cons a r ih =>
      intro y e
      have e' : some (match leastP r with | none => a | some q => if SrtO.lexB q a then q else a) = some y := e
      cases er : leastP r with
      | none =>
        rw [er] at e'
        cases e'
        exact List.mem_cons_self
      | some q' =>
        rw [er] at e'
        have e3 : (if SrtO.lexB q' a then q' else a) = y := Option.some.inj e'
        split at e3
        · subst e3
          exact List.mem_cons_of_mem _ (ih _ er)
        · subst e3
          exact List.mem_cons_self
  unfold soonI
  cases e : leastP (es.map fun p => (p.2, p.1)) with
  | none =>
    cases es with
    | nil => exact absurd rfl h
    | cons p r => cases e
  | some y =>
    refine ⟨y.2, rfl, ?_⟩
    obtain ⟨p, hp, e2⟩ := List.mem_map.mp (hm _ _ e)
    rw [← e2]
    unfold valI
    rw [Option.isSome_map, List.find?_isSome]
    exact ⟨p, hp, decide_eq_true rfl⟩
structure Pos (c : Ad) (H H' : Hp) (a x dx dk de : Addr) (nm : Str) (ap : Int) (ek ee : List (Int × Int)) : Prop where
  st : St2 H' a
  hx : H' x = some (.ins c.Hand dx (fsH nm ap dk))
  hk : H' dk = some (.dK (kvI ek))
  he : H' de = some (.dK (kvI ee))
  nd : dk ≠ de
  fa : H a = none
  fk : H dk = none
  fe : H de = none
  sm : Same H H'
  wf : Wf H'
  uk : NoDup ek
  ue : NoDup ee
  bnd : ∀ p ∈ ee, 0 ≤ p.1 ∧ 0 ≤ p.2
namespace Pos
variable {c : Ad} {H H' H2 : Hp} {a x dx dk de : Addr} {nm : Str} {ap : Int} {ek ee ek' ee' : List (Int × Int)}
theorem hand (p : Pos c H H' a x dx dk de nm ap ek ee) : HandAt c.Hand H' x nm ap ek := ⟨dx, dk, p.hx, p.hk⟩
theorem dr (p : Pos c H H' a x dx dk de nm ap ek ee) (d : Dr a H' H2) : Pos c H H2 a x dx dk de nm ap ek ee where
  st := d.st
  hx := d.at p.hx (fun _ _ z => by cases z) p.st
  hk := d.at p.hk (fun _ _ z => by cases z) p.st
  he := d.at p.he (fun _ _ z => by cases z) p.st
  nd := p.nd
  fa := p.fa
  fk := p.fk
  fe := p.fe
  sm := fun b o e => d.kp b o (ne_of_none e p.fa) (p.sm b o e)
  wf := d.wf
  uk := p.uk
  ue := p.ue
  bnd := p.bnd
theorem state (p : Pos c H H' a x dx dk de nm ap ek ee) {a' : Addr} {u v : Int} (n : H' a' = none) (h : 0 ≤ u) : Pos c H (upd H' a' (stL u v)) a' x dx dk de nm ap ek ee where
  st := ⟨u, v, upd_same, h⟩
  hx := same_new n _ _ p.hx
  hk := same_new n _ _ p.hk
  he := same_new n _ _ p.he
  nd := p.nd
  fa := p.sm.free n
  fk := p.fk
  fe := p.fe
  sm := p.sm.trans (same_new n)
  wf := p.wf.new trivial n
  uk := p.uk
  ue := p.ue
  bnd := p.bnd
theorem setk (p : Pos c H H' a x dx dk de nm ap ek ee) (u : NoDup ek') : Pos c H (upd H' dk (.dK (kvI ek'))) a x dx dk de nm ap ek' ee where
  st := by
    obtain ⟨u, w, e, h⟩ := p.st
    exact ⟨u, w, by rw [upd_ne (ne_of e p.hk fun z => by cases z)]; exact e, h⟩
  hx := by rw [upd_ne (ne_of p.hx p.hk fun z => by cases z)]; exact p.hx
  hk := upd_same
  he := by rw [upd_ne p.nd.symm]; exact p.he
  nd := p.nd
  fa := p.fa
  fk := p.fk
  fe := p.fe
  sm := same_put p.sm p.fk
  wf := p.wf.at trivial p.hk fun _ z => by cases z
  uk := u
  ue := p.ue
  bnd := p.bnd
theorem sete (p : Pos c H H' a x dx dk de nm ap ek ee) (u : NoDup ee') (b : ∀ p ∈ ee', 0 ≤ p.1 ∧ 0 ≤ p.2) : Pos c H (upd H' de (.dK (kvI ee'))) a x dx dk de nm ap ek ee' where
  st := by
    obtain ⟨u, w, e, h⟩ := p.st
    exact ⟨u, w, by rw [upd_ne (ne_of e p.he fun z => by cases z)]; exact e, h⟩
  hx := by rw [upd_ne (ne_of p.hx p.he fun z => by cases z)]; exact p.hx
  hk := by rw [upd_ne p.nd]; exact p.hk
  he := upd_same
  nd := p.nd
  fa := p.fa
  fk := p.fk
  fe := p.fe
  sm := same_put p.sm p.fe
  wf := p.wf.at trivial p.he fun _ z => by cases z
  uk := p.uk
  ue := u
  bnd := b
end Pos
theorem put_bnd {es : List (Int × Int)} {n e : Int} (h : ∀ p ∈ es, 0 ≤ p.1 ∧ 0 ≤ p.2) (hn : 0 ≤ n) (he : 0 ≤ e) : ∀ p ∈ putI es n e, 0 ≤ p.1 ∧ 0 ≤ p.2 := fun p hp => by
  unfold putI at hp
  split at hp
  · obtain ⟨q, hq, e2⟩ := List.mem_map.mp hp
    have := h q hq
    subst e2
    split
    · exact ⟨this.1, he⟩
    · exact this
  · rcases List.mem_append.mp hp with hp | hp
    · exact h p hp
    · rw [List.mem_singleton.mp hp]
      exact ⟨hn, he⟩
theorem put_len (es : List (Int × Int)) (n e : Int) : (putI es n e).length ≤ es.length + 1 := by
  unfold putI
  split
  · rw [List.length_map]
    omega
  · rw [List.length_append]
    exact Nat.le_refl _
theorem heard_eq (es : List (Int × Int)) (n : Int) {e : Int} (h : 0 ≤ e) : putI es n (if (valI es n).getD e > e then (valI es n).getD e else e) = heard es n e := by
  unfold heard getI
  congr 1
  cases valI es n with
  | none =>
    show (if e > e then e else e) = if e < 0 then 0 else e
    rw [if_neg (by omega), if_neg (by omega)]
  | some v => rfl
theorem val_bnd {es : List (Int × Int)} {n v : Int} (h : ∀ p ∈ es, 0 ≤ p.1 ∧ 0 ≤ p.2) (e : valI es n = some v) : 0 ≤ n ∧ 0 ≤ v := by
  unfold valI at e
  cases e2 : es.find? fun p => decide (p.1 = n) with
  | none => rw [e2] at e; cases e
  | some p =>
    rw [e2] at e
    cases e
    have := h p (List.mem_of_find?_eq_some e2)
    have h3 := List.find?_some e2
    have h4 : p.1 = n := by simpa using h3
    exact ⟨by omega, this.2⟩
theorem items_back {H H9 : Hp} {p9 : Addr} {ts : List Addr} {vs : List V} {kvs : List (Key × V)} (wf : Wf H) (kp : ∀ b o, H b = some o → H9 b = some o) (hp : H9 p9 = some (.lst vs)) (hpair : Paired (fun (t : Addr) (q : Key × V) => H9 t = some (.tup [kV q.1, q.2])) ts kvs) : ∃ H2, Back H H2 H9 ∧ Same H H2 ∧ H2 p9 = some (.lst vs) ∧ Paired (fun (t : Addr) (q : Key × V) => H2 t = some (.tup [kV q.1, q.2])) ts kvs := by
  let H2 : Hp := fun b => if b = p9 ∨ b ∈ ts then H9 b else H b
  have sub : ∀ a o, H2 a = some o → H9 a = some o := fun a o e => by
    have e' : (if a = p9 ∨ a ∈ ts then H9 a else H a) = some o := e
    split at e'
    · exact e'
    · exact kp a o e'
  have same : Same H H2 := fun a o e => by
    show (if a = p9 ∨ a ∈ ts then H9 a else H a) = some o
    split
    · exact kp a o e
    · exact e
  have hts : ∀ {ts : List Addr} {kvs : List (Key × V)}, Paired (fun (t : Addr) (q : Key × V) => H9 t = some (.tup [kV q.1, q.2])) ts kvs → ∀ t ∈ ts, ∃ xs, H9 t = some (.tup xs) := fun {ts kvs} h => by
    induction h with
    | nil => exact fun t ht => by cases ht
    | cons h _ ih =>
      intro t ht
      rcases List.mem_cons.mp ht with rfl | ht
      · exact ⟨_, h⟩
      · exact ih t ht
  have mono : ∀ {us : List Addr} {ks : List (Key × V)}, (∀ u ∈ us, u ∈ ts) → Paired (fun (t : Addr) (q : Key × V) => H9 t = some (.tup [kV q.1, q.2])) us ks → Paired (fun (t : Addr) (q : Key × V) => H2 t = some (.tup [kV q.1, q.2])) us ks := fun {us ks} hu h => by
    induction h with
    | nil => exact .nil
    | cons h _ ih =>
      refine .cons ?_ (ih fun u hu2 => hu u (List.mem_cons_of_mem _ hu2))
      show (if _ ∨ _ then _ else _) = _
      rw [if_pos (.inr (hu _ List.mem_cons_self))]
      exact h
  refine ⟨H2, ⟨sub, fun a o e => ?_, fun a o e => ?_⟩, same, ?_, mono (fun _ h => h) hpair⟩
  · rw [same a o e, kp a o e]
  · have e' : (if a = p9 ∨ a ∈ ts then H9 a else H a) = some o := e
    split at e'
    · rename_i h
      left
      rcases h with rfl | h
      · rw [hp] at e'
        cases e'
        trivial
      · obtain ⟨xs, hx⟩ := hts hpair a h
        rw [hx] at e'
        cases e'
        trivial
    · rcases wf a o e' with f | ⟨C, dx, fs, rfl, hd⟩
      · exact .inl f
      · exact .inr ⟨C, dx, fs, rfl, same _ _ hd⟩
  · show (if p9 = p9 ∨ _ then _ else _) = _
    rw [if_pos (.inl rfl)]
    exact hp
theorem paired_same {H H' : Hp} {ts : List Addr} {kvs : List (Key × V)} (s : Same H H') (h : Paired (fun (t : Addr) (q : Key × V) => H t = some (.tup [kV q.1, q.2])) ts kvs) : Paired (fun (t : Addr) (q : Key × V) => H' t = some (.tup [kV q.1, q.2])) ts kvs := by
  induction h with
  | nil => exact .nil
  | cons h _ ih => exact .cons (s _ _ h) ih
theorem paired_sqt {K : PySem.W.Frag} {H : Hp} {ts : List Addr} {kvs : List (Key × V)} (h : Paired (fun (t : Addr) (q : Key × V) => H t = some (.tup [kV q.1, q.2])) ts kvs) : Paired (fun (t : Addr) (q : Key × V) => SqT K H t [kV q.1, q.2]) ts kvs := by
  induction h with
  | nil => exact .nil
  | cons h _ ih => exact .cons (.inl (.inl h)) ih
theorem paired_len {α β : Type} {F : α → β → Prop} {ts : List α} {kvs : List β} (h : Paired F ts kvs) : ts.length = kvs.length := by
  induction h with
  | nil => rfl
  | cons _ _ ih => rw [List.length_cons, List.length_cons, ih]

def ansR (es : List (Int × Int)) (w n : Int) : Bool := decide (w < 3) && (valI es n).isNone
def ansD (es : List (Int × Int)) (ap w cl n : Int) : PyData :=
  if w = 3 then .list ((tellsI es ap cl).map .int)
  else if w = 4 then (match soonI es with | none => .none | some m => .int m)
  else match valI es n with
    | none => .list [.bool false, .bool true]
    | some e => if w = 0 then .bool (decide (cl + ap < e)) else if w = 1 then .bool (decide (e ≤ cl - ap)) else .int (if 0 < e - ap - 1 - cl then e - ap - 1 - cl else 0)
theorem ans_none {es : List (Int × Int)} {ap w cl n : Int} (h : valI es n = none) (h2 : w < 3) : ansD es ap w cl n = .list [.bool false, .bool true] := by
  unfold ansD
  rw [if_neg (by omega), if_neg (by omega), h]
theorem ans_0 {es : List (Int × Int)} {ap cl n e : Int} (h : valI es n = some e) : ansD es ap 0 cl n = .bool (decide (cl + ap < e)) := by
  unfold ansD
  rw [if_neg (by omega), if_neg (by omega), h]
  show (if (0 : Int) = 0 then _ else _) = _
  rw [if_pos rfl]
theorem ans_1 {es : List (Int × Int)} {ap cl n e : Int} (h : valI es n = some e) : ansD es ap 1 cl n = .bool (decide (e ≤ cl - ap)) := by
  unfold ansD
  rw [if_neg (by omega), if_neg (by omega), h]
  show (if (1 : Int) = 0 then _ else _) = _
  rw [if_neg (by omega), if_pos rfl]
theorem ans_2 {es : List (Int × Int)} {ap cl n e : Int} (h : valI es n = some e) : ansD es ap 2 cl n = .int (if 0 < e - ap - 1 - cl then e - ap - 1 - cl else 0) := by
  unfold ansD
  rw [if_neg (by omega), if_neg (by omega), h]
  show (if (2 : Int) = 0 then _ else _) = _
  rw [if_neg (by omega), if_neg (by omega)]
theorem ans_3 {es : List (Int × Int)} {ap cl n : Int} : ansD es ap 3 cl n = .list ((tellsI es ap cl).map .int) := by
  unfold ansD
  rw [if_pos rfl]
theorem ans_4 {es : List (Int × Int)} {ap cl n : Int} : ansD es ap 4 cl n = (match soonI es with | none => .none | some m => .int m) := by
  unfold ansD
  rw [if_neg (by omega), if_pos rfl]
theorem ansR_lt {es : List (Int × Int)} {w n : Int} (h : w < 3) : ansR es w n = (valI es n).isNone := by
  unfold ansR
  rw [decide_eq_true h, Bool.true_and]
theorem ansR_ge {es : List (Int × Int)} {w n : Int} (h : ¬ w < 3) : ansR es w n = false := by
  unfold ansR
  rw [decide_eq_false h, Bool.false_and]
theorem dp_opt {K : PySem.W.Frag} {H : Hp} (o : Option Int) : Dp K H (optI o) (match o with | none => .none | some m => .int m) := by
  cases o with
  | none => exact .non
  | some m => exact .int m

abbrev s__law_answer : Stmt := topS 25
abbrev N__law_answer : List Str := ["_law_hand", "_law_word", "_law_clock", "_law_loan", "_law_found", "e"]
theorem sc__law_answer : FnScope N__law_answer ["_law_hand", "_law_word", "_law_clock", "_law_loan"] (defScope s__law_answer) := ⟨rfl, rfl, rfl, by decide +kernel, rfl, by decide +kernel, by decide +kernel⟩
def sp__law_answer (K : PySem.W.Frag) (c : Ad) : Sp := fun vs H Q E => arg4 (fun s v u o => ∃ (x : Addr) (nm : Str) (ap : Int) (es : List (Int × Int)) (w cl n : Int), s = .ref x ∧ v = .int w ∧ u = .int cl ∧ o = .int n ∧ 0 ≤ w ∧ w ≤ 4 ∧ 0 ≤ cl ∧ 0 ≤ n ∧ HandAt c.Hand H x nm ap es ∧ es.length ≤ 1000 ∧ Wf H ∧ ∀ p v H', H' p = some (.tup [.bl (ansR es w n), v]) → Dp K H' v (ansD es ap w cl n) → (w = 3 → ∃ q, v = .ref q ∧ H' q = some (.lst ((tellsI es ap cl).map V.int)) ∧ H q = none) → Same H H' → Wf H' → Q (.ref p) H') vs
theorem ok__law_answer {P : Program} {w : World} {K : PySem.W.Frag} {mg : Str → Option Value} {base : Heap} {c : Ad} (T : Txt K mg c) : Ok P w K mg base 5 "_law_answer" ["_law_hand", "_law_word", "_law_clock", "_law_loan"] (sp__law_answer K c) := by
  refine okF T.f__law_answer sc__law_answer (fun vs H Q E h => ?_) (fun f cdv A outer sh H vs Q E hr h => ?_)
  · obtain ⟨s, v, u, o, rfl, h⟩ := arg4.ex h
    rfl
  · obtain ⟨s, v, u, o, rfl, h⟩ := arg4.ex h
    have tk : Takes (cxOf (L2.CX P w) P w K mg base N__law_answer "_law_answer" (defScope s__law_answer) f cdv A outer sh H (bE H E)) (fun cls d _ H' => bE H E cls d H') := takes_of rfl rfl rfl rfl
    refine ⟨_, pss_cons (ps_set (i := 4) sc__law_answer.nd rfl (.inl rfl) (pe_tup (pa_cons pe_bl (pa_cons pe_non pa_nil))))
      (pss_cons (ps_tryA (K := K) T.x_LentError sc__law_answer.nd (i := 5) rfl tk (fun W pn xe tk pO => pss_one (ps_if (pt_cmpU (opU_eq (K := K) hr) (lv 1) pe_int (nomark _))
      (pss_one (ps_set (i := 4) sc__law_answer.nd rfl (.inl rfl) (pe_tup (pa_cons pe_bl (pa_cons (pe_mS (CS := cs_Hand c) (lv 0) (okc_Hand T) (okm_Hand_surely_out T) hr tk (pa_cons (lv 2) (pa_cons (lv 3) pa_nil))) pa_nil))))) (pss_one (ps_if (pt_cmpU (opU_eq (K := K) hr) (lv 1) pe_int (nomark _))
      (pss_one (ps_set (i := 4) sc__law_answer.nd rfl (.inl rfl) (pe_tup (pa_cons pe_bl (pa_cons (pe_mS (CS := cs_Hand c) (lv 0) (okc_Hand T) (okm_Hand_surely_over T) hr tk (pa_cons (lv 2) (pa_cons (lv 3) pa_nil))) pa_nil))))) (pss_one (ps_if (pt_cmpU (opU_eq (K := K) hr) (lv 1) pe_int (nomark _))
      (pss_one (ps_set (i := 4) sc__law_answer.nd rfl (.inl rfl) (pe_tup (pa_cons pe_bl (pa_cons (pe_mS (CS := cs_Hand c) (lv 0) (okc_Hand T) (okm_Hand_left T) hr tk (pa_cons (lv 2) (pa_cons (lv 3) pa_nil))) pa_nil))))) (pss_one (ps_if (pt_cmpU (opU_eq (K := K) hr) (lv 1) pe_int (nomark _))
      (pss_one (ps_set (i := 4) sc__law_answer.nd rfl (.inl rfl) (pe_tup (pa_cons pe_bl (pa_cons (pe_mS (CS := cs_Hand c) (lv 0) (okc_Hand T) (okm_Hand_tells T) hr tk (pa_cons (lv 2) pa_nil)) pa_nil))))) (pss_one (ps_set (i := 4) sc__law_answer.nd rfl (.inl rfl) (pe_tup (pa_cons pe_bl (pa_cons (pe_mS0 (CS := cs_Hand c) (lv 0) (okc_Hand T) (okm_Hand_soonest T) (hr.mono (by decide)) tk) pa_nil))))))))))))) (fun a oe cls d pn hz hf => pss_one (ps_set (i := 4) sc__law_answer.nd rfl (.inl rfl) (pe_tup (pa_cons pe_bl (pa_cons (pe_lst (pa_cons (pe_callB (callU_isX (K := K) hz hf) (by rfl) T.m_isinstance (by decide +kernel) (pa_cons (lv 5) (pa_cons (pe_xc T.x_NoMoment) pa_nil))) (pa_cons (pe_callB (callU_isX (K := K) hz hf) (by rfl) T.m_isinstance (by decide +kernel) (pa_cons (lv 5) (pa_cons (pe_xc T.x_NoLoan) pa_nil))) pa_nil))) pa_nil))))))
      (pss_one (ps_ret (lv 4)))), ?_⟩
    obtain ⟨x, nm, ap, es, w, cl, n, rfl, rfl, rfl, rfl, w0, w4, c0, n0, ha, le, wf, k⟩ := h
    refine ⟨line_of (show 2 ≤ 16777216 by decide), fun p0 np0 => ?_⟩
    have sm0 := same_new (o := .tup [.bl true, .non]) np0
    have w0' := wf.new (o := .tup [.bl true, .non]) trivial np0
    generalize upd H p0 (.tup [.bl true, .non]) = H0 at sm0 w0' ⊢
    have ha0 := ha.keep sm0
    obtain ⟨dx, dk, hx, hd⟩ := id ha0
    have fin : ∀ (b : Bool) (v : V) (H1 : Hp), b = ansR es w n → Same H H1 → Wf H1 → Dp K H1 v (ansD es ap w cl n) → (w = 3 → ∃ q, v = .ref q ∧ H1 q = some (.lst ((tellsI es ap cl).map V.int)) ∧ H q = none) → ∀ p, H1 p = none → bQ H Q (.ref p) (upd H1 p (.tup [.bl b, v])) := fun b v H1 hb sm1 w1 hd h3 p np => by
      have sm := same_new (o := .tup [.bl b, v]) np
      have wN := w1.new (o := .tup [.bl b, v]) trivial np
      refine bQ.mk wN (k p v _ (by rw [upd_same, hb]) (dp_keep (fun p o e => sm p o e) hd) (fun e => ?_) (sm1.trans sm) wN)
      obtain ⟨q, e1, e2, e3⟩ := h3 e
      exact ⟨q, e1, sm _ _ e2, e3⟩
    have exc : w < 3 → valI es n = none → ∀ p1, H0 p1 = none → ∀ p2, (upd H0 p1 (.lst [.bl false, .bl true])) p2 = none → bQ H Q (.ref p2) (upd (upd H0 p1 (.lst [.bl false, .bl true])) p2 (.tup [.bl true, .ref p1])) := fun hw hv p1 np1 p2 np2 => by
      refine fin true (.ref p1) _ (by rw [ansR_lt hw, hv]; rfl) (sm0.trans (same_new np1)) (w0'.new (o := .lst [.bl false, .bl true]) trivial np1) ?_ (fun e => absurd hw (by omega)) p2 np2
      rw [ans_none hv hw]
      exact .lst (.inl (.inl upd_same)) (.cons (.bl _) (.cons (.bl _) .nil))
    refine iteC (p := V.int w = V.int 0) (fun e0 => ?_) (fun e0 => ?_)
    · cases e0
      cases hv : valI es n with
      | some e =>
        refine ⟨x, c.Hand, dx, _, rfl, hx, rfl, rfl, x, nm, ap, es, rfl, rfl, ha0, w0', .inl ⟨cl, n, e, rfl, c0, rfl, n0, hv, ?_⟩⟩
        refine ⟨line_of (show 2 ≤ 16777216 by decide), fin _ _ _ (by rw [ansR_lt (by decide), hv]; rfl) sm0 w0' (by rw [ans_0 hv]; exact .bl _) (fun e => absurd e (by decide))⟩
      | none =>
        refine ⟨x, c.Hand, dx, _, rfl, hx, rfl, rfl, x, nm, ap, es, rfl, rfl, ha0, w0', .inr (.inr ⟨trivial, count_ok c0, trivial, fun m e _ => by cases e; exact hv, ?_⟩)⟩
        refine ⟨true, exc_under T.x_NoLoan T.x_LentError T.u_NoLoan_LentError, fun _ e2 ne => ?_, fun z => by cases z⟩
        refine ⟨_, rfl, rfl, T.x_NoLoan.cc, _, _, _, rfl, fun _ h => h, exc_is T.x_NoLoan T.u_NoLoan_NoLoan T.x_NoMoment T.u_NoLoan_NoMoment, ?_⟩
        refine ⟨_, rfl, rfl, T.x_NoLoan.cc, _, _, _, rfl, fun _ h => h, exc_is T.x_NoLoan T.u_NoLoan_NoLoan T.x_NoLoan T.u_NoLoan_NoLoan, ?_⟩
        refine ⟨line_of (show 2 ≤ 16777216 by decide), fun p1 np1 => ⟨line_of (show 2 ≤ 16777216 by decide), exc (by decide) hv p1 np1⟩⟩
    · refine iteC (p := V.int w = V.int 1) (fun e1 => ?_) (fun e1 => ?_)
      · cases e1
        cases hv : valI es n with
        | some e =>
          refine ⟨x, c.Hand, dx, _, rfl, hx, rfl, rfl, x, nm, ap, es, rfl, rfl, ha0, w0', .inl ⟨cl, n, e, rfl, c0, rfl, n0, hv, ?_⟩⟩
          refine ⟨line_of (show 2 ≤ 16777216 by decide), fin _ _ _ (by rw [ansR_lt (by decide), hv]; rfl) sm0 w0' (by rw [ans_1 hv]; exact .bl _) (fun e => absurd e (by decide))⟩
        | none =>
          refine ⟨x, c.Hand, dx, _, rfl, hx, rfl, rfl, x, nm, ap, es, rfl, rfl, ha0, w0', .inr (.inr ⟨trivial, count_ok c0, trivial, fun m e _ => by cases e; exact hv, ?_⟩)⟩
          refine ⟨true, exc_under T.x_NoLoan T.x_LentError T.u_NoLoan_LentError, fun _ e2 ne => ?_, fun z => by cases z⟩
          refine ⟨_, rfl, rfl, T.x_NoLoan.cc, _, _, _, rfl, fun _ h => h, exc_is T.x_NoLoan T.u_NoLoan_NoLoan T.x_NoMoment T.u_NoLoan_NoMoment, ?_⟩
          refine ⟨_, rfl, rfl, T.x_NoLoan.cc, _, _, _, rfl, fun _ h => h, exc_is T.x_NoLoan T.u_NoLoan_NoLoan T.x_NoLoan T.u_NoLoan_NoLoan, ?_⟩
          refine ⟨line_of (show 2 ≤ 16777216 by decide), fun p1 np1 => ⟨line_of (show 2 ≤ 16777216 by decide), exc (by decide) hv p1 np1⟩⟩
      · refine iteC (p := V.int w = V.int 2) (fun e2 => ?_) (fun e2 => ?_)
        · cases e2
          cases hv : valI es n with
          | some e =>
            refine ⟨x, c.Hand, dx, _, rfl, hx, rfl, rfl, x, nm, ap, es, rfl, rfl, ha0, w0', .inl ⟨cl, n, e, rfl, c0, rfl, n0, hv, ?_⟩⟩
            refine ⟨line_of (show 2 ≤ 16777216 by decide), fin _ _ _ (by rw [ansR_lt (by decide), hv]; rfl) sm0 w0' (by rw [ans_2 hv]; exact .int _) (fun e => absurd e (by decide))⟩
          | none =>
            refine ⟨x, c.Hand, dx, _, rfl, hx, rfl, rfl, x, nm, ap, es, rfl, rfl, ha0, w0', .inr (.inr ⟨trivial, count_ok c0, trivial, fun m e _ => by cases e; exact hv, ?_⟩)⟩
            refine ⟨true, exc_under T.x_NoLoan T.x_LentError T.u_NoLoan_LentError, fun _ e2 ne => ?_, fun z => by cases z⟩
            refine ⟨_, rfl, rfl, T.x_NoLoan.cc, _, _, _, rfl, fun _ h => h, exc_is T.x_NoLoan T.u_NoLoan_NoLoan T.x_NoMoment T.u_NoLoan_NoMoment, ?_⟩
            refine ⟨_, rfl, rfl, T.x_NoLoan.cc, _, _, _, rfl, fun _ h => h, exc_is T.x_NoLoan T.u_NoLoan_NoLoan T.x_NoLoan T.u_NoLoan_NoLoan, ?_⟩
            refine ⟨line_of (show 2 ≤ 16777216 by decide), fun p1 np1 => ⟨line_of (show 2 ≤ 16777216 by decide), exc (by decide) hv p1 np1⟩⟩
        · refine iteC (p := V.int w = V.int 3) (fun e3 => ?_) (fun e3 => ?_)
          · cases e3
            refine ⟨x, c.Hand, dx, _, rfl, hx, rfl, rfl, x, nm, ap, es, rfl, rfl, ha0, le, w0', .inl ⟨cl, rfl, c0, fun q H1 eq nq sm1 w1 => ?_⟩⟩
            have nqH : H q = none := sm0.free nq
            refine ⟨line_of (show 2 ≤ 16777216 by decide), fin _ _ _ (by rw [ansR_ge (by decide)]) (sm0.trans sm1) w1 ?_ (fun _ => ⟨q, rfl, eq, nqH⟩)⟩
            rw [ans_3]
            exact .lst (.inl (.inl eq)) (dp_ints _)
          · have e4 : w = 4 := by
              have h0 : w ≠ 0 := fun e => e0 (by rw [e])
              have h1 : w ≠ 1 := fun e => e1 (by rw [e])
              have h2 : w ≠ 2 := fun e => e2 (by rw [e])
              have h3 : w ≠ 3 := fun e => e3 (by rw [e])
              omega
            subst e4
            refine ⟨x, c.Hand, dx, _, rfl, hx, rfl, rfl, x, nm, ap, es, rfl, rfl, ha0, le, w0', ?_⟩
            refine ⟨line_of (show 2 ≤ 16777216 by decide), fin _ _ _ (by rw [ansR_ge (by decide)]) sm0 w0' ?_ (fun e => absurd e (by decide))⟩
            rw [ans_4]
            exact dp_opt _

abbrev s__law_reckoned : Stmt := topS 26
abbrev N__law_reckoned : List Str := ["_law_kept", "_law_apart_here", "_law_word", "_law_clock", "_law_loan", "_law_rows", "_law_one"]
theorem sc__law_reckoned : FnScope N__law_reckoned ["_law_kept", "_law_apart_here", "_law_word", "_law_clock", "_law_loan"] (defScope s__law_reckoned) := ⟨rfl, rfl, rfl, by decide +kernel, rfl, by decide +kernel, by decide +kernel⟩
def sp__law_reckoned (K : PySem.W.Frag) (c : Ad) : Sp := fun vs H Q E => arg5 (fun s v u o q => ∃ (dk : Addr) (ap : Int) (es : List (Int × Int)) (w cl n : Int), s = .ref dk ∧ v = .int ap ∧ u = .int w ∧ o = .int cl ∧ q = .int n ∧ 0 ≤ w ∧ w ≤ 4 ∧ H dk = some (.dK (kvI es)) ∧ NoDup es ∧ es.length ≤ 1000 ∧ Wf H ∧ ∀ p v H', H' p = some (.tup [.bl (ansR es w n), v]) → Dp K H' v (ansD es ap w cl n) → Same H H' → Wf H' → Q (.ref p) H') vs
theorem ok__law_reckoned {P : Program} {w : World} {K : PySem.W.Frag} {mg : Str → Option Value} {base : Heap} {c : Ad} (T : Txt K mg c) : Ok P w K mg base 1 "_law_reckoned" ["_law_kept", "_law_apart_here", "_law_word", "_law_clock", "_law_loan"] (sp__law_reckoned K c) := by
  refine okF T.f__law_reckoned sc__law_reckoned (fun vs H Q E h => ?_) (fun f cdv A outer sh H vs Q E hr h => ?_)
  · obtain ⟨s, v, u, o, q, rfl, h⟩ := arg5.ex h
    rfl
  · obtain ⟨s, v, u, o, q, rfl, h⟩ := arg5.ex h
    have tk : Takes (cxOf (L2.CX P w) P w K mg base N__law_reckoned "_law_reckoned" (defScope s__law_reckoned) f cdv A outer sh H (bE H E)) (fun cls d _ H' => bE H E cls d H') := takes_of rfl rfl rfl rfl
    refine ⟨_, pss_cons (ps_if (pt_cmpU (opU_eq (K := K) hr) (lv 2) pe_int (nomark _))
      (pss_one (ps_ret (pe_tup (pa_cons pe_bl (pa_cons (pe_callB cr_sortedI (by rfl) T.m_sorted (by decide +kernel) (pa_cons (pe_lock (pe_lc (own := [("_law_one", 6)]) (g := gName 6) rfl sc__law_reckoned.nd (pi_keys (lv 0)) (blkOk_by (own := [("_law_one", 6)]) (N := N__law_reckoned) (sc := defScope s__law_reckoned) (by decide +kernel)) (fun _ _ _ _ _ => pg_name (i := 6) sc__law_reckoned.nd rfl (.inl rfl)) (fun _ _ _ _ _ => pts_one (pt_cmpU opU_gt (pe_dget (roomU1 hr :) (lv 0) (lv 6) (fun _ _ => rfl)) (pe_op opU_sub (lv 3) (lv 1)) (nomark _))) (fun _ _ _ _ _ => lv 6))) pa_nil)) pa_nil))))) pss_nil)
      (pss_cons (ps_if (pt_cmpU (opU_eq (K := K) hr) (lv 2) pe_int (nomark _))
      (pss_cons (ps_set (i := 5) sc__law_reckoned.nd rfl (.inl rfl) (pe_callB cr_sortedPO (by rfl) T.m_sorted (by decide +kernel) (pa_cons (pe_lock (pe_lc (own := [("_law_one", 6)]) (g := gName 6) rfl sc__law_reckoned.nd (pi_keys (lv 0)) (blkOk_by (own := [("_law_one", 6)]) (N := N__law_reckoned) (sc := defScope s__law_reckoned) (by decide +kernel)) (fun _ _ _ _ _ => pg_name (i := 6) sc__law_reckoned.nd rfl (.inl rfl)) (fun _ _ _ _ _ => pts_nil) (fun _ _ _ _ _ => pe_tup (pa_cons (pe_dget (roomU1 hr :) (lv 0) (lv 6) (fun _ _ => rfl)) (pa_cons (lv 6) pa_nil))))) pa_nil)))
      (pss_one (ps_ret (pe_tup (pa_cons pe_bl (pa_cons (pe_ifExp (pt_cmpU (opU_eq (K := K) hr) (lv 5) (pe_lst pa_nil) (nomark _)) pe_non (pe_ix (ixU (K := K)) (pe_ix (ixU (K := K)) (lv 5) pe_int (fun _ _ => rfl)) pe_int (fun _ _ => rfl))) pa_nil)))))) pss_nil)
      (pss_cons (ps_if (pt_pcU (pc_dnotin (roomU1 hr :) (lv 4) (lv 0)) (by rfl))
      (pss_one (ps_ret (pe_tup (pa_cons pe_bl (pa_cons (pe_lst (pa_cons pe_bl (pa_cons pe_bl pa_nil))) pa_nil))))) pss_nil)
      (pss_cons (ps_if (pt_cmpU (opU_eq (K := K) hr) (lv 2) pe_int (nomark _))
      (pss_one (ps_ret (pe_tup (pa_cons pe_bl (pa_cons (pe_cmpR opU_gt (pe_op opU_sub (pe_dget (roomU1 hr :) (lv 0) (lv 4) (fun _ _ => rfl)) (lv 3)) (lv 1) (nomark _)) pa_nil))))) pss_nil)
      (pss_cons (ps_if (pt_cmpU (opU_eq (K := K) hr) (lv 2) pe_int (nomark _))
      (pss_one (ps_ret (pe_tup (pa_cons pe_bl (pa_cons (pe_cmpR opU_ge (pe_op opU_sub (lv 3) (pe_dget (roomU1 hr :) (lv 0) (lv 4) (fun _ _ => rfl))) (lv 1) (nomark _)) pa_nil))))) pss_nil)
      (pss_one (ps_ret (pe_tup (pa_cons pe_bl (pa_cons (pe_callB (callU_max2 rfl) (by rfl) T.m_max (by decide +kernel) (pa_cons pe_int (pa_cons (pe_op opU_sub (pe_op opU_sub (pe_op opU_sub (pe_dget (roomU1 hr :) (lv 0) (lv 4) (fun _ _ => rfl)) (lv 1)) (lv 3)) pe_int) pa_nil))) pa_nil))))))))), ?_⟩
    obtain ⟨dk, ap, es, w, cl, n, rfl, rfl, rfl, rfl, rfl, w0, w4, hd, nd, le, wf, k⟩ := h
    have fin : ∀ (b : Bool) (v : V) (H1 : Hp), b = ansR es w n → Same H H1 → Wf H1 → Dp K H1 v (ansD es ap w cl n) → ∀ p, H1 p = none → bQ H Q (.ref p) (upd H1 p (.tup [.bl b, v])) := fun b v H1 hb sm1 w1 hd p np => by
      have sm := same_new (o := .tup [.bl b, v]) np
      have wN := w1.new (o := .tup [.bl b, v]) trivial np
      exact bQ.mk wN (k p v _ (by rw [upd_same, hb]) (dp_keep (fun p o e => sm p o e) hd) (sm1.trans sm) wN)
    refine iteC (p := V.int w = V.int 3) (fun e3 => ?_) (fun e3 => ?_)
    · cases e3
      refine ⟨dk, _, hd, trivial, fun od => ?_⟩
      have hd1 : (upd H dk (.frz od (.dK (kvI es)))) dk = some (.frz od (.dK (kvI es))) := upd_same
      have kp1 : ∀ b o, b ≠ dk → H b = some o → (upd H dk (.frz od (.dK (kvI es)))) b = some o := fun b o n e => by rw [upd_ne n]; exact e
      have w1 : Wf (upd H dk (.frz od (.dK (kvI es)))) := wf.at trivial hd fun _ z => by cases z
      generalize upd H dk (.frz od (.dK (kvI es))) = H1 at hd1 kp1 w1 ⊢
      refine ⟨dk, od, rfl, .inl ⟨kvI es, hd1, fun D nD => ?_⟩⟩
      have nDd : D ≠ dk := fun z => by rw [z, hd1] at nD; cases nD
      refine lc_it (walk_keys (d := dk) (o := od) (kvs := kvI es)) (fun i H' => H' D = some (.lst (((es.take i).filter fun p => decide (cl - ap < p.2)).map fun p => V.int p.1)) ∧ Same H1 H' ∧ Wf H') ⟨upd_same, same_new nD, w1.new trivial nD⟩ (fun i H' _ h => h.2.1 _ _ hd1) (fun i v H0x H3 hi hp hy => ?_) (fun H' hp => ?_)
      · obtain ⟨eD3, sm3, w3⟩ := hp
        obtain ⟨rfl, k2, v2, hkv, hv⟩ := hy
        obtain ⟨l, e, hes, rfl, rfl⟩ := kvI_key hkv
        obtain rfl : v = .int l := hv
        refine ⟨rfl, ?_⟩
        have hg : DGet H3 dk (.int l) (some (.int e)) := .inl ⟨kvI es, .inl l, .inr ⟨od, sm3 _ _ hd1⟩, rfl, by rw [kvI_val, valI_nodup nd hes]; rfl⟩
        refine ⟨dk, _, rfl, hg, ?_⟩
        have lacc : (((es.take i).filter fun p => decide (cl - ap < p.2)).map fun p => V.int p.1).length < sizeLine := line_lt (by
          rw [List.length_map]
          have := List.length_filter_le (fun p : Int × Int => decide (cl - ap < p.2)) (es.take i)
          rw [List.length_take] at this
          omega)
        refine iteC (p := cl - ap < e) (fun h1 => ?_) (fun h1 => ?_)
        · refine ⟨_, eD3, lacc, ?_, fun b o eb => ?_, ?_⟩
          · rw [upd_same, take_snoc hes, List.filter_append, List.map_append]
            simp [h1]
          · rw [upd_ne (ne_of_none eb nD)]
            exact sm3 b o eb
          · exact w3.at trivial eD3 fun _ z => by cases z
        · refine ⟨?_, sm3, w3⟩
          rw [take_snoc hes, List.filter_append, List.map_append]
          simp [h1]
          simpa using eD3
      · obtain ⟨eD, sm, w2⟩ := hp
        have hd2 := sm _ _ hd1
        refine ⟨hd2, ?_⟩
        rw [kvI_len, List.take_length] at eD
        have sm2 : Same H (upd H' dk (.dK (kvI es))) := fun b o e => by
          by_cases hb : b = dk
          · subst hb
            rw [hd] at e
            cases e
            exact upd_same
          · rw [upd_ne hb]
            exact sm _ _ (kp1 b o hb e)
        have w3 : Wf (upd H' dk (.dK (kvI es))) := w2.at trivial hd2 fun _ z => by cases z
        have eD2 : (upd H' dk (.dK (kvI es))) D = some (.lst (((es.filter fun p => decide (cl - ap < p.2)).map (·.1)).map V.int)) := by
          rw [upd_ne nDd, eD, List.map_map]
          rfl
        generalize upd H' dk (.dK (kvI es)) = H4 at sm2 w3 eD2 ⊢
        refine ⟨D, _, rfl, .inl (.inl eD2), fun ns' q perm srt nq => ?_⟩
        have en : ns' = tellsI es ap cl := PySem.W.eq_sortI perm srt
        subst en
        have smq := same_new (o := .lst ((tellsI es ap cl).map V.int)) nq
        have eq : (upd H4 q (.lst ((tellsI es ap cl).map V.int))) q = some (.lst ((tellsI es ap cl).map V.int)) := upd_same
        have w4 := w3.new (o := .lst ((tellsI es ap cl).map V.int)) trivial nq
        have smZ := sm2.trans smq
        generalize upd H4 q (.lst ((tellsI es ap cl).map V.int)) = H5 at eq w4 smZ ⊢
        refine ⟨line_of (show 2 ≤ 16777216 by decide), fin _ _ _ (by rw [ansR_ge (by decide)]) smZ w4 ?_⟩
        rw [ans_3]
        exact .lst (.inl (.inl eq)) (dp_ints _)
    · refine iteC (p := V.int w = V.int 4) (fun e4 => ?_) (fun e4 => ?_)
      · cases e4
        refine ⟨dk, _, hd, trivial, fun od => ?_⟩
        have hd1 : (upd H dk (.frz od (.dK (kvI es)))) dk = some (.frz od (.dK (kvI es))) := upd_same
        have kp1 : ∀ b o, b ≠ dk → H b = some o → (upd H dk (.frz od (.dK (kvI es)))) b = some o := fun b o n e => by rw [upd_ne n]; exact e
        have w1 : Wf (upd H dk (.frz od (.dK (kvI es)))) := wf.at trivial hd fun _ z => by cases z
        generalize upd H dk (.frz od (.dK (kvI es))) = H1 at hd1 kp1 w1 ⊢
        refine ⟨dk, od, rfl, .inl ⟨kvI es, hd1, fun D nD => ?_⟩⟩
        have nDd : D ≠ dk := fun z => by rw [z, hd1] at nD; cases nD
        refine lc_it (walk_keys (d := dk) (o := od) (kvs := kvI es)) (fun i H' => ∃ vs : List V, H' D = some (.lst vs) ∧ Al2 (fun v (p : Int × Int) => ∃ t, v = .ref t ∧ H' t = some (.tup [.int p.2, .int p.1])) vs (es.take i) ∧ Same H1 H' ∧ Wf H') ⟨[], upd_same, .nil, same_new nD, w1.new trivial nD⟩ (fun i H' _ h => by obtain ⟨_, _, _, h, _⟩ := h; exact h _ _ hd1) (fun i v H0x H3 hi hp hy => ?_) (fun H' hp => ?_)
        · obtain ⟨vs, eD, hal, sm3, w3⟩ := hp
          obtain ⟨rfl, k2, v2, hkv, hv⟩ := hy
          obtain ⟨l, e, hes, rfl, rfl⟩ := kvI_key hkv
          obtain rfl : v = .int l := hv
          refine ⟨rfl, ?_⟩
          have hg : DGet H3 dk (.int l) (some (.int e)) := .inl ⟨kvI es, .inl l, .inr ⟨od, sm3 _ _ hd1⟩, rfl, by rw [kvI_val, valI_nodup nd hes]; rfl⟩
          refine ⟨dk, _, rfl, hg, ?_⟩
          refine ⟨line_of (show 2 ≤ 16777216 by decide), fun q nq => ?_⟩
          have smQ := same_new (o := .tup [.int e, .int l]) nq
          have w4 := w3.new (o := .tup [.int e, .int l]) trivial nq
          have eq : (upd H3 q (.tup [.int e, .int l])) q = some (.tup [.int e, .int l]) := upd_same
          replace eD := smQ _ _ eD
          have sm4 := sm3.trans smQ
          replace hal := hal.mono (P' := fun v (p : Int × Int) => ∃ t', v = .ref t' ∧ (upd H3 q (.tup [.int e, .int l])) t' = some (.tup [.int p.2, .int p.1])) fun v p ⟨t', e1, e2⟩ => ⟨t', e1, smQ _ _ e2⟩
          generalize upd H3 q (.tup [.int e, .int l]) = H4 at w4 eq eD sm4 hal ⊢
          have lv : vs.length ≤ 1000 := by
            rw [hal.len, List.length_take]
            omega
          refine ⟨vs, eD, line_lt (by omega), vs ++ [V.ref q], upd_same, ?_, fun b o eb => ?_, w4.at trivial eD fun _ z => by cases z⟩
          · rw [take_snoc hes]
            have f : ∀ (v : V) (p : Int × Int), (∃ t', v = .ref t' ∧ H4 t' = some (.tup [.int p.2, .int p.1])) → ∃ t', v = .ref t' ∧ (upd H4 D (.lst (vs ++ [V.ref q]))) t' = some (.tup [.int p.2, .int p.1]) := fun v p ⟨t', e1, e2⟩ => ⟨t', e1, by rw [upd_ne (ne_of e2 eD fun z => by cases z)]; exact e2⟩
            exact (hal.mono f).snoc (f _ _ ⟨q, rfl, eq⟩)
          · rw [upd_ne (ne_of_none eb nD)]
            exact sm4 b o eb
        · obtain ⟨vs, eD, hal, sm, w2⟩ := hp
          have hd2 := sm _ _ hd1
          refine ⟨hd2, ?_⟩
          rw [kvI_len, List.take_length] at hal
          have sm2 : Same H (upd H' dk (.dK (kvI es))) := fun b o e => by
            by_cases hb : b = dk
            · subst hb
              rw [hd] at e
              cases e
              exact upd_same
            · rw [upd_ne hb]
              exact sm _ _ (kp1 b o hb e)
          have w3 : Wf (upd H' dk (.dK (kvI es))) := w2.at trivial hd2 fun _ z => by cases z
          have eD2 : (upd H' dk (.dK (kvI es))) D = some (.lst vs) := by
            rw [upd_ne nDd, eD]
          replace hal := hal.mono (P' := fun v (p : Int × Int) => ∃ t', v = .ref t' ∧ (upd H' dk (.dK (kvI es))) t' = some (.tup [.int p.2, .int p.1])) fun v p ⟨t', e1, e2⟩ => ⟨t', e1, by rw [upd_ne (ne_of e2 hd2 fun z => by cases z)]; exact e2⟩
          generalize upd H' dk (.dK (kvI es)) = H4 at sm2 w3 eD2 hal ⊢
          have hk : ∀ {v : V} {p : Int × Int}, (∃ t', v = .ref t' ∧ H4 t' = some (.tup [.int p.2, .int p.1])) → kOf H4 v = (p.2, p.1) := fun {v p} ⟨t', e1, e2⟩ => by
            subst e1
            unfold kOf
            simp only [e2]
          have hks : vs.map (kOf H4) = es.map fun p => (p.2, p.1) := by
            clear fin le k hd nd hd1 eD hd2 sm2 sm eD2
            induction hal with
            | nil => rfl
            | cons h _ ih => rw [List.map_cons, List.map_cons, hk h, ih]
          refine ⟨D, vs, kOf H4, rfl, .inl (.inl eD2), fun v hv => ?_, fun ys p srt stb np => ?_⟩
          · obtain ⟨q, hq, t', e1, e2⟩ := hal.mem hv
            refine ⟨t', e1, ?_⟩
            rw [hk ⟨t', e1, e2⟩]
            exact e2
          · have hys : ∀ y ∈ ys, ∃ t, y = V.ref t ∧ H4 t = some (.tup [.int (kOf H4 y).1, .int (kOf H4 y).2]) := fun y hy => by
              obtain ⟨q, hq, t', e1, e2⟩ := hal.mem (stb.perm.mem_iff.mp hy)
              refine ⟨t', e1, ?_⟩
              rw [hk ⟨t', e1, e2⟩]
              exact e2
            have smP := same_new (o := .lst ys) np
            have hys2 : ∀ y ∈ ys, ∃ t, y = V.ref t ∧ (upd H4 p (.lst ys)) t = some (.tup [.int (kOf H4 y).1, .int (kOf H4 y).2]) := fun y hy => by
              obtain ⟨t, e1, e2⟩ := hys y hy
              exact ⟨t, e1, smP _ _ e2⟩
            have w4 := w3.new (o := .lst ys) trivial np
            have ep : (upd H4 p (.lst ys)) p = some (.lst ys) := upd_same
            have sm4 := sm2.trans smP
            generalize upd H4 p (.lst ys) = H5 at hys2 w4 ep sm4 ⊢
            refine ⟨line_of (show 0 ≤ 16777216 by decide), fun e ne => ?_⟩
            have smE := same_new (o := .lst []) ne
            have hys3 : ∀ y ∈ ys, ∃ t, y = V.ref t ∧ (upd H5 e (.lst [])) t = some (.tup [.int (kOf H4 y).1, .int (kOf H4 y).2]) := fun y hy => by
              obtain ⟨t, e1, e2⟩ := hys2 y hy
              exact ⟨t, e1, smE _ _ e2⟩
            refine ⟨.list ((ys.map (kOf H4)).map fun p => .tuple [.int p.1, .int p.2]), .list [], .lst (.inl (.inl (smE _ _ ep))) (pairs_dp hys3), .lst (.inl (.inl upd_same)) .nil, pairs_shaped _, rfl, ?_⟩
            have ee : PyData.eqv (.list ((ys.map (kOf H4)).map fun p => .tuple [.int p.1, .int p.2])) (.list []) = ys.isEmpty := by cases ys <;> rfl
            rw [ee]
            have sm5 := sm4.trans smE
            have ep5 := smE _ _ ep
            have w6 := w4.new (o := .lst []) trivial ne
            generalize upd H5 e (.lst []) = H6 at hys3 ep5 sm5 w6 ⊢
            cases ys with
            | nil =>
              have : es = [] := by
                have h1 := stb.perm.length_eq
                have h2 := hal.len
                cases es with
                | nil => rfl
                | cons _ _ => simp at h1 h2; omega
              subst this
              refine ⟨line_of (show 2 ≤ 16777216 by decide), fin _ _ _ (by rw [ansR_ge (by decide)]) sm5 w6 ?_⟩
              rw [ans_4]
              exact .non
            | cons y0 r =>
              refine ⟨_, y0, .inl (.inl (.inl ep5)), atI_nat (j := 0) rfl, ?_⟩
              obtain ⟨t, e1, e2⟩ := hys3 y0 List.mem_cons_self
              subst e1
              refine ⟨_, _, .inr (.inl (.inl e2)), rfl, ?_⟩
              have hl : leastP (es.map fun p => (p.2, p.1)) = some (kOf H4 (.ref t)) := by
                rw [← hks]
                refine leastP_of (List.mem_map.mpr ⟨_, stb.perm.mem_iff.mp List.mem_cons_self, rfl⟩) fun q hq => ?_
                obtain ⟨v, hv, rfl⟩ := List.mem_map.mp hq
                rcases List.mem_cons.mp (stb.perm.mem_iff.mpr hv) with e | e
                · rw [e]
                  exact SrtO.lexB_no.mpr (by omega)
                · exact SrtO.srtd_head srt v e
              have hs : soonI es = some (kOf H4 (.ref t)).2 := by
                unfold soonI
                rw [hl]
                rfl
              refine ⟨line_of (show 2 ≤ 16777216 by decide), fin _ _ _ (by rw [ansR_ge (by decide)]) sm5 w6 ?_⟩
              rw [ans_4, hs]
              exact .int _
      · have hw : w < 3 := by
          have h1 : w ≠ 3 := fun e => e3 (by rw [e])
          have h2 : w ≠ 4 := fun e => e4 (by rw [e])
          omega
        cases hv : valI es n with
        | none =>
          have hg : DGet H dk (.int n) none := by
            have := DGet.k (k := .inl n) hd
            rw [kvI_val, hv] at this
            exact this
          refine ⟨dk, _, rfl, hg, ?_⟩
          refine ⟨line_of (show 2 ≤ 16777216 by decide), fun p1 np1 => ⟨line_of (show 2 ≤ 16777216 by decide), fun p2 np2 => ?_⟩⟩
          refine fin true (.ref p1) _ (by rw [ansR_lt hw, hv]; rfl) (same_new np1) (wf.new (o := .lst [.bl false, .bl true]) trivial np1) ?_ p2 np2
          rw [ans_none hv hw]
          exact .lst (.inl (.inl upd_same)) (.cons (.bl _) (.cons (.bl _) .nil))
        | some e =>
          have hg : DGet H dk (.int n) (some (.int e)) := by
            have := DGet.k (k := .inl n) hd
            rw [kvI_val, hv] at this
            exact this
          have hr : false = ansR es w n := by rw [ansR_lt hw, hv]; rfl
          refine ⟨dk, _, rfl, hg, ?_⟩
          refine iteC (p := V.int w = V.int 0) (fun e0 => ?_) (fun e0 => ?_)
          · cases e0
            refine ⟨dk, _, rfl, hg, ?_⟩
            refine ⟨line_of (show 2 ≤ 16777216 by decide), fin _ _ _ hr (Same.refl _) wf ?_⟩
            rw [ans_0 hv, show decide (ap < e - cl) = decide (cl + ap < e) from decide_eq_decide.mpr (by omega)]
            exact .bl _
          · refine iteC (p := V.int w = V.int 1) (fun e1 => ?_) (fun e1 => ?_)
            · cases e1
              refine ⟨dk, _, rfl, hg, ?_⟩
              refine ⟨line_of (show 2 ≤ 16777216 by decide), fin _ _ _ hr (Same.refl _) wf ?_⟩
              rw [ans_1 hv, show decide (ap ≤ cl - e) = decide (e ≤ cl - ap) from decide_eq_decide.mpr (by omega)]
              exact .bl _
            · have hw2 : w = 2 := by
                have h1 : w ≠ 0 := fun e => e0 (by rw [e])
                have h2 : w ≠ 1 := fun e => e1 (by rw [e])
                omega
              subst hw2
              refine ⟨dk, _, rfl, hg, ?_⟩
              refine ⟨line_of (show 2 ≤ 16777216 by decide), fin _ _ _ hr (Same.refl _) wf ?_⟩
              rw [ans_2 hv, show (if e - ap - cl - 1 > 0 then e - ap - cl - 1 else 0) = (if 0 < e - ap - 1 - cl then e - ap - 1 - cl else 0) by rw [show e - ap - cl - 1 = e - ap - 1 - cl by omega]]
              exact .int _

abbrev s__law_clocks : Stmt := topS 27
abbrev N__law_clocks : List Str := ["_law_state_here", "_law_kept", "_law_apart_here", "_law_base", "_law_found", "_law_end_here", "_law_clock"]
theorem sc__law_clocks : FnScope N__law_clocks ["_law_state_here", "_law_kept", "_law_apart_here", "_law_base"] (defScope s__law_clocks) := ⟨rfl, rfl, rfl, by decide +kernel, rfl, by decide +kernel, by decide +kernel⟩
def sp__law_clocks (K : PySem.W.Frag) (c : Ad) : Sp := fun vs H Q E => arg4 (fun s v u o => ∃ (a dk : Addr) (es : List (Int × Int)) (ap base : Int), s = .ref a ∧ v = .ref dk ∧ u = .int ap ∧ o = .int base ∧ 0 ≤ base ∧ St2 H a ∧ H dk = some (.dK (kvI es)) ∧ es.length ≤ 1000 ∧ Wf H ∧ ∀ R cs H', Dr a H H' → H' R = some (.lst (cs.map V.int)) → R ≠ a → (∀ x ∈ cs, 0 ≤ x) → cs ≠ [] → cs.length ≤ 100 → Q (.ref R) H') vs
theorem ok__law_clocks {P : Program} {w : World} {K : PySem.W.Frag} {mg : Str → Option Value} {base : Heap} {c : Ad} (T : Txt K mg c) : Ok P w K mg base 3 "_law_clocks" ["_law_state_here", "_law_kept", "_law_apart_here", "_law_base"] (sp__law_clocks K c) := by
  refine okF T.f__law_clocks sc__law_clocks (fun vs H Q E h => ?_) (fun f cdv A outer sh H vs Q E hr h => ?_)
  · obtain ⟨s, v, u, o, rfl, h⟩ := arg4.ex h
    rfl
  · obtain ⟨s, v, u, o, rfl, h⟩ := arg4.ex h
    have tk : Takes (cxOf (L2.CX P w) P w K mg base N__law_clocks "_law_clocks" (defScope s__law_clocks) f cdv A outer sh H (bE H E)) (fun cls d _ H' => bE H E cls d H') := takes_of rfl rfl rfl rfl
    refine ⟨_, pss_cons (ps_set (i := 4) sc__law_clocks.nd rfl (.inl rfl) (pe_lst (pa_cons pe_int (pa_cons (lv 3) (pa_cons (pe_f (ok__law_digit (K := K) T) hr passL (pa_cons (lv 0) (pa_cons (pe_op opU_pow pe_int pe_int) pa_nil))) pa_nil)))))
      (pss_cons (ps_for (passes_of rfl) rfl (pi_listK (K := K) (pe_slice (slU (K := K)) (pe_sortedVals rfl (lv 1) (by rfl) T.m_sorted) po_none (po_someU pe_int))) (pg_name (i := 5) sc__law_clocks.nd rfl (.inl rfl))
      (pss_one (ps_set (i := 4) sc__law_clocks.nd rfl (.inl rfl) (pe_op (opU_add (K := K)) (lv 4) (pe_lst (pa_cons (pe_op opU_sub (pe_op opU_sub (lv 5) (lv 2)) pe_int) (pa_cons (pe_op opU_sub (lv 5) (lv 2)) (pa_cons (pe_op opU_sub (pe_op (opU_add (K := K)) (lv 5) (lv 2)) pe_int) (pa_cons (pe_op (opU_add (K := K)) (lv 5) (lv 2)) pa_nil)))))))))
      (pss_one (ps_ret (pe_lc (own := [("_law_clock", 6)]) (g := gName 6) rfl sc__law_clocks.nd (pi_listK (K := K) (lv 4)) (blkOk_by (own := [("_law_clock", 6)]) (N := N__law_clocks) (sc := defScope s__law_clocks) (by decide +kernel)) (fun _ _ _ _ _ => pg_name (i := 6) sc__law_clocks.nd rfl (.inl rfl)) (fun _ _ _ _ _ => pts_one (pt_cmpU opU_ge (lv 6) pe_int (nomark _))) (fun _ _ _ _ _ => lv 6))))), ?_⟩
    obtain ⟨a, dk, es, ap, base', rfl, rfl, rfl, rfl, b0, s0, hd, le, wf, k⟩ := h
    have d0 := Dr.refl s0 wf
    refine ⟨⟨by decide, by decide, by decide⟩, ?_⟩
    refine ⟨a, _, rfl, rfl, d0.st, bas_lt (by decide) (by decide), d0.wf, fun r1 p1 q1 g1 l1 n1 => ?_⟩
    have d1 := d0.drawn (q := q1) n1
    generalize upd H a (stL p1 q1) = H1 at d1  ⊢
    refine ⟨line_of (show 3 ≤ 16777216 by decide), fun F0 nF0 => ?_⟩
    have neF0 := st_ne d1.st nF0
    have d2 := d1.new (p := F0) (o := .lst [.int 0, .int base', .int r1]) nF0 trivial
    have eF0 : (upd H1 F0 (.lst [.int 0, .int base', .int r1])) F0 = some (.lst [.int 0, .int base', .int r1]) := upd_same
    generalize upd H1 F0 (.lst [.int 0, .int base', .int r1]) = H2 at d2 eF0  ⊢
    have hd2 := d2.at hd (fun _ _ z => by cases z) s0
    refine ⟨dk, kvI es, es.map (·.2), rfl, hd2, by unfold kvI; rw [List.map_map, List.map_map]; rfl, fun ns P perm srt nP => ?_⟩
    have neP := st_ne d2.st nP
    have d3 := d2.new (p := P) (o := .lst (ns.map V.int)) nP trivial
    replace eF0 := same_new (o := .lst (ns.map V.int)) nP _ _ eF0
    have eP : (upd H2 P (.lst (ns.map V.int))) P = some (.lst (ns.map V.int)) := upd_same
    generalize upd H2 P (.lst (ns.map V.int)) = H3 at d3 eP eF0 ⊢
    refine .inl ⟨P, _, rfl, .inl (.inl eP), fun sl nsl => ?_⟩
    obtain ⟨us, hus, lus⟩ : ∃ us : List Int, cutV (ns.map V.int) none (some 3) = us.map V.int ∧ us.length ≤ 3 := by
      refine ⟨ns.take 3, ?_, ?_⟩
      · rw [cutV_to (by decide), ← List.map_take]
        rfl
      · rw [List.length_take]
        omega
    rw [hus]
    have nesl := st_ne d3.st nsl
    have d4 := d3.new (p := sl) (o := .lst (us.map V.int)) nsl trivial
    replace eF0 := same_new (o := .lst (us.map V.int)) nsl _ _ eF0
    have esl : (upd H3 sl (.lst (us.map V.int))) sl = some (.lst (us.map V.int)) := upd_same
    generalize upd H3 sl (.lst (us.map V.int)) = H4 at d4 esl eF0 ⊢
    refine ⟨sl, rfl, ⟨_, .inl (.inl esl)⟩, for_list (K := K) (a := sl) (xs := us.map V.int) (fun j σ H' => ∃ (F : Addr) (xs : List Int) (y5 : Option V), σ = [some (.ref a), some (.ref dk), some (.int ap), some (.int base'), some (.ref F), y5, none] ∧ H' F = some (.lst (xs.map V.int)) ∧ F ≠ a ∧ H' sl = some (.lst (us.map V.int)) ∧ Dr a H H' ∧ xs.length = 3 + 4 * j ∧ (0 : Int) ∈ xs) ⟨F0, [0, base', r1], _, rfl, eF0, neF0, esl, d4, rfl, by simp⟩ (fun j σ H' _ h => by obtain ⟨_, _, _, _, _, _, h, _⟩ := h; exact .inl (.inl h)) (fun j v σ HL0 hxx h => ?_) (fun σ HZ h => ?_)⟩
    · obtain ⟨F, xs, y5, rfl, eF, neF, esl', dL0, lx, zx⟩ := h
      obtain ⟨e, rfl⟩ : ∃ e, v = .int e := by
        rw [List.getElem?_map] at hxx
        cases h : us[j]? with
        | none => rw [h] at hxx; cases hxx
        | some e => rw [h] at hxx; cases hxx; exact ⟨e, rfl⟩
      have hj : j < us.length := by
        have := (List.getElem?_eq_some_iff.mp hxx).1
        rwa [List.length_map] at this
      refine ⟨line_of (show 4 ≤ 16777216 by decide), fun z1 nz1 => ?_⟩
      have nez1 := st_ne dL0.st nz1
      have dL1 := dL0.new (p := z1) (o := .lst [.int (e - ap - 1), .int (e - ap), .int (e + ap - 1), .int (e + ap)]) nz1 trivial
      replace eF := same_new (o := .lst [.int (e - ap - 1), .int (e - ap), .int (e + ap - 1), .int (e + ap)]) nz1 _ _ eF
      replace esl' := same_new (o := .lst [.int (e - ap - 1), .int (e - ap), .int (e + ap - 1), .int (e + ap)]) nz1 _ _ esl'
      have ez1 : (upd HL0 z1 (.lst [.int (e - ap - 1), .int (e - ap), .int (e + ap - 1), .int (e + ap)])) z1 = some (.lst [.int (e - ap - 1), .int (e - ap), .int (e + ap - 1), .int (e + ap)]) := upd_same
      generalize upd HL0 z1 (.lst [.int (e - ap - 1), .int (e - ap), .int (e + ap - 1), .int (e + ap)]) = HL1 at dL1 ez1 eF esl' ⊢
      refine .inl ⟨F, z1, _, _, rfl, rfl, eF, ez1, line_of (by rw [List.length_map]; show _ + 4 ≤ _; omega), fun y ny => ?_⟩
      have hgr : xs.map V.int ++ [.int (e - ap - 1), .int (e - ap), .int (e + ap - 1), .int (e + ap)] = (xs ++ [e - ap - 1, e - ap, e + ap - 1, e + ap]).map V.int := by rw [List.map_append]; rfl
      rw [hgr]
      have ney := st_ne dL1.st ny
      have dL2 := dL1.new (p := y) (o := .lst ((xs ++ [e - ap - 1, e - ap, e + ap - 1, e + ap]).map V.int)) ny trivial
      replace esl' := same_new (o := .lst ((xs ++ [e - ap - 1, e - ap, e + ap - 1, e + ap]).map V.int)) ny _ _ esl'
      have ey : (upd HL1 y (.lst ((xs ++ [e - ap - 1, e - ap, e + ap - 1, e + ap]).map V.int))) y = some (.lst ((xs ++ [e - ap - 1, e - ap, e + ap - 1, e + ap]).map V.int)) := upd_same
      generalize upd HL1 y (.lst ((xs ++ [e - ap - 1, e - ap, e + ap - 1, e + ap]).map V.int)) = HL2 at dL2 ey esl' ⊢
      exact ⟨y, _, _, rfl, ey, ney, esl', dL2, by rw [List.length_append]; show _ + 4 = _; omega, List.mem_append_left _ zx⟩
    · obtain ⟨F, xs, y5, rfl, eF, neF, esl', dZ, lx, zx⟩ := h
      rw [List.length_map] at lx
      refine ⟨F, rfl, ⟨_, .inl (.inl eF)⟩, fun D nD => ?_⟩
      have hD : ∀ o, Same HZ (upd HZ D o) := fun o => same_new nD
      refine lc_filt (walk_list (K := K) (a := F) (xs := xs.map V.int)) (fun i x => (xs.map V.int)[i]? = some x) (fun i H x H' h => h) (fun i => V.int (xs.getD i 0)) (fun i => decide (0 ≤ xs.getD i 0)) (line_lt (by rw [List.length_map]; omega)) (fun o => .inl (.inl (hD o _ _ eF))) (fun i v acc C Cn hi hx hy hn => ?_) ?_
      · obtain ⟨e, hg, rfl⟩ : ∃ e, xs.getD i 0 = e ∧ v = .int e := by
          rw [List.getElem?_map] at hx
          cases h : xs[i]? with
          | none => rw [h] at hx; cases hx
          | some e => rw [h] at hx; cases hx; exact ⟨e, by rw [List.getD_eq_getElem?_getD, h]; rfl, rfl⟩
        rw [hg] at hy hn
        refine ⟨rfl, iteC (p := 0 ≤ e) (fun h => hy (decide_eq_true h)) (fun h => hn (decide_eq_false h))⟩
      · have e1 : ((List.range (xs.map V.int).length).filter fun i => decide (0 ≤ xs.getD i 0)).map (fun i => V.int (xs.getD i 0)) = (xs.filter fun e => decide (0 ≤ e)).map V.int := by
          rw [List.length_map]
          exact filt_getD xs 0 (fun e => decide (0 ≤ e)) V.int
        rw [e1]
        have dN := dZ.new (p := D) (o := .lst ((xs.filter fun e => decide (0 ≤ e)).map V.int)) nD trivial
        refine bQ.mk dN.wf (k D _ _ dN upd_same (st_ne dZ.st nD) (fun x hx => of_decide_eq_true (List.mem_filter.mp hx).2) (fun z => ?_) ?_)
        · have : (0 : Int) ∈ xs.filter fun e => decide (0 ≤ e) := List.mem_filter.mpr ⟨zx, rfl⟩
          rw [z] at this
          cases this
        · have := List.length_filter_le (fun e : Int => decide (0 ≤ e)) xs
          omega

theorem cut_mem (ws : List Int) (lo hi : Option Int) : ∃ us : List Int, cutV (ws.map V.int) lo hi = us.map V.int ∧ us.length ≤ ws.length ∧ ∀ x ∈ us, x ∈ ws := by
  refine ⟨(ws.drop (HT.sIx (ws.map V.int).length 0 lo)).take (HT.sIx (ws.map V.int).length (ws.map V.int).length hi - HT.sIx (ws.map V.int).length 0 lo), ?_, ?_, fun x hx => List.mem_of_mem_drop (List.mem_of_mem_take hx)⟩
  · unfold cutV
    rw [← List.map_drop, ← List.map_take]
  · rw [List.length_take, List.length_drop]
    omega
theorem ints_lay (zs : List Int) : PyData.canLayAll0 (zs.map .int) = true ∧ PyData.depthAll (zs.map .int) = 0 := by
  constructor
  · induction zs with
    | nil => rfl
    | cons z r ih =>
      show (true && PyData.canLayAll0 (r.map .int)) = true
      rw [ih]
      rfl
  · induction zs with
    | nil => rfl
    | cons z r ih =>
      show max 0 (PyData.depthAll (r.map .int)) = 0
      rw [ih]
      rfl
theorem ans_shaped (es : List (Int × Int)) (ap w cl n : Int) (b : Bool) : SeqAt.shaped (.tuple [.bool b, ansD es ap w cl n]) = true := by
  have key : ∀ d : PyData, PyData.canLay0 d = true → PyData.depth d ≤ 3 → SeqAt.shaped (.tuple [.bool b, d]) = true := fun d h1 h2 => by
    unfold SeqAt.shaped
    show (true && (PyData.canLay0 d && true) && decide (max 0 (max (PyData.depth d) 0) + 1 ≤ 64)) = true
    rw [h1, decide_eq_true (by omega)]
    rfl
  obtain ⟨h1, h2⟩ := ints_lay (tellsI es ap cl)
  unfold ansD
  split
  · exact key _ h1 (by show PyData.depthAll _ + 1 ≤ 3; omega)
  · split
    · split
      · exact key _ rfl (by decide)
      · exact key _ rfl (by show 0 ≤ 3; decide)
    · split
      · exact key _ rfl (by decide)
      · split
        · exact key _ rfl (by show 0 ≤ 3; decide)
        · split
          · exact key _ rfl (by show 0 ≤ 3; decide)
          · exact key _ rfl (by show 0 ≤ 3; decide)
def isBlD : PyData → Bool | .bool _ => true | _ => false
theorem bl_dp {K : PySem.W.Frag} {H : Hp} {v : V} {d : PyData} (h : Dp K H v d) : isBl v = isBlD d := by cases h <;> rfl

abbrev s__law_hand_right : Stmt := topS 28
abbrev N__law_hand_right : List Str := ["_law_state_here", "_law_hand", "_law_kept", "_law_apart_here", "_law_loans_here", "_law_base", "_law_clocks_here", "_law_at", "_law_clock", "_law_word", "_law_loan", "_law_told", "_law_due"]
theorem sc__law_hand_right : FnScope N__law_hand_right ["_law_state_here", "_law_hand", "_law_kept", "_law_apart_here", "_law_loans_here", "_law_base"] (defScope s__law_hand_right) := ⟨rfl, rfl, rfl, by decide +kernel, rfl, by decide +kernel, by decide +kernel⟩
def sp__law_hand_right (K : PySem.W.Frag) (c : Ad) : Sp := fun vs H Q E => arg6 (fun s h v u o b => ∃ (a x dk R : Addr) (nm : Str) (es : List (Int × Int)) (ap base e_0 e_1 e_2 e_3 e_4 : Int), s = .ref a ∧ h = .ref x ∧ v = .ref dk ∧ u = .int ap ∧ o = .ref R ∧ b = .int base ∧ 0 ≤ base ∧ St2 H a ∧ HandAt c.Hand H x nm ap es ∧ H dk = some (.dK (kvI es)) ∧ H R = some (.lst [.int e_0, .int e_1, .int e_2, .int e_3, .int e_4]) ∧ (∀ n ∈ [e_0, e_1, e_2, e_3, e_4], (0 : Int) ≤ n) ∧ NoDup es ∧ es.length ≤ 1000 ∧ Wf H ∧ ∀ H', Dr a H H' → Q (.bl true) H') vs
theorem ok__law_hand_right {P : Program} {w : World} {K : PySem.W.Frag} {mg : Str → Option Value} {base : Heap} {c : Ad} (T : Txt K mg c) : Ok P w K mg base 6 "_law_hand_right" ["_law_state_here", "_law_hand", "_law_kept", "_law_apart_here", "_law_loans_here", "_law_base"] (sp__law_hand_right K c) := by
  refine okF T.f__law_hand_right sc__law_hand_right (fun vs H Q E h => ?_) (fun f cdv A outer sh H vs Q E hr h => ?_)
  · obtain ⟨s, h, v, u, o, b, rfl, h⟩ := arg6.ex h
    rfl
  · obtain ⟨s, h, v, u, o, b, rfl, h⟩ := arg6.ex h
    have tk : Takes (cxOf (L2.CX P w) P w K mg base N__law_hand_right "_law_hand_right" (defScope s__law_hand_right) f cdv A outer sh H (bE H E)) (fun cls d _ H' => bE H E cls d H') := takes_of rfl rfl rfl rfl
    refine ⟨_, pss_cons (ps_set (i := 6) sc__law_hand_right.nd rfl (.inl rfl) (pe_f (ok__law_clocks (K := K) T) (hr.mono (by decide)) passL (pa_cons (lv 0) (pa_cons (lv 2) (pa_cons (lv 3) (pa_cons (lv 5) pa_nil))))))
      (pss_cons (ps_set (i := 7) sc__law_hand_right.nd rfl (.inl rfl) (pe_f (ok__law_digit (K := K) T) (hr.mono (by decide)) passL (pa_cons (lv 0) (pa_cons (pe_callB (callU_len (K := K)) (by rfl) T.m_len (by decide +kernel) (pa_cons (lv 6) pa_nil)) pa_nil))))
      (pss_cons (ps_for (passes_of rfl) rfl (pi_listK (K := K) (pe_op (opU_add (K := K)) (pe_slice (slU (K := K)) (lv 6) (po_someU (lv 7)) po_none) (pe_slice (slU (K := K)) (lv 6) po_none (po_someU (lv 7))))) (pg_name (i := 8) sc__law_hand_right.nd rfl (.inl rfl))
      (pss_one (ps_for (passes_of rfl) rfl (pi_range1 (by rfl) T.m_range (pa_cons pe_int pa_nil)) (pg_name (i := 9) sc__law_hand_right.nd rfl (.inl rfl))
      (pss_one (ps_for (passes_of rfl) rfl (pi_listK (K := K) (pe_slice (slU (K := K)) (lv 4) po_none (po_someU (pe_op (opU_add (K := K)) pe_int (pe_op opU_mul pe_int (pe_callTy callU_int (by rfl) T.m_int (by decide +kernel) (pa_cons (pe_cmpR opU_lt (lv 9) pe_int (nomark _)) pa_nil))))))) (pg_name (i := 10) sc__law_hand_right.nd rfl (.inl rfl))
      (pss_cons (ps_set (i := 11) sc__law_hand_right.nd rfl (.inl rfl) (pe_f (ok__law_answer (K := K) T) hr passL (pa_cons (lv 1) (pa_cons (lv 9) (pa_cons (lv 8) (pa_cons (lv 10) pa_nil))))))
      (pss_cons (ps_set (i := 12) sc__law_hand_right.nd rfl (.inl rfl) (pe_f (ok__law_reckoned (K := K) T) (hr.mono (by decide)) passL (pa_cons (lv 2) (pa_cons (lv 3) (pa_cons (lv 9) (pa_cons (lv 8) (pa_cons (lv 10) pa_nil)))))))
      (pss_cons (ps_if (PW.pt (pw_or (pt_cmpU (opU_ne (K := K) hr) (lv 11) (lv 12) (nomark _)) (pw_or1 (pt_cmpU (opU_ne (K := K) hr) (pe_callB (callU_isi (K := K)) (by rfl) T.m_isinstance (by decide +kernel) (pa_cons (pe_ix (ixU (K := K)) (lv 11) pe_int (fun _ _ => rfl)) (pa_cons (pe_ty "bool" T.m_bool) pa_nil))) (pe_callB (callU_isi (K := K)) (by rfl) T.m_isinstance (by decide +kernel) (pa_cons (pe_ix (ixU (K := K)) (lv 12) pe_int (fun _ _ => rfl)) (pa_cons (pe_ty "bool" T.m_bool) pa_nil))) (nomark _)))))
      (pss_one (ps_ret pe_bl)) pss_nil)
      (pss_one (ps_if (pt_cmpU (opU_eq (K := K) hr) (lv 9) pe_int (nomark _))
      (pss_one (ps_expr (pe_bm PySem.F.plainAttrs_list PySem.F.slot_list_append PySem.F.type_list_append mt_append (pe_ix (ixU (K := K)) (lv 11) pe_int (fun _ _ => rfl)) (pa_cons pe_int pa_nil)))) pss_nil))))))))))
      (pss_one (ps_ret pe_bl)))), ?_⟩
    obtain ⟨a, x, dk, R, nm, es, ap, base', e_0, e_1, e_2, e_3, e_4, rfl, rfl, rfl, rfl, rfl, rfl, b0, s0, ha, hd, hR, ln, nd, le, wf, k⟩ := h
    refine ⟨a, dk, es, ap, base', rfl, rfl, rfl, rfl, b0, s0, hd, le, wf, fun CL cs H1 d1 eC neC c0 cne cle => ?_⟩
    obtain ⟨dx, dk0, hx, hd0⟩ := id ha
    replace hx := d1.at hx (fun _ _ z => by cases z) s0
    replace hd0 := d1.at hd0 (fun _ _ z => by cases z) s0
    replace hd := d1.at hd (fun _ _ z => by cases z) s0
    replace hR := d1.at hR (fun _ _ z => by cases z) s0
    replace ha : HandAt c.Hand H1 x nm ap es := ⟨dx, dk0, hx, hd0⟩
    have dP := d1
    replace d1 := Dr.refl d1.st d1.wf
    refine .inl ⟨_, .inl (.inl (.inl eC)), ?_⟩
    have lc1 : 0 < cs.length := List.length_pos_iff.mpr cne
    refine ⟨a, _, rfl, rfl, d1.st, bas_lt (by rw [List.length_map]; omega) (by rw [List.length_map]; omega), d1.wf, fun r2 p2 q2 g2 l2 n2 => ?_⟩
    have d2 := d1.drawn (q := q2) n2
    generalize upd H1 a (stL p2 q2) = H2 at d2  ⊢
    replace eC := d2.kp CL _ neC eC
    obtain ⟨u1, hu1, lu1, mu1⟩ := cut_mem cs (some r2) none
    obtain ⟨u2, hu2, lu2, mu2⟩ := cut_mem cs none (some r2)
    refine .inl ⟨CL, _, rfl, .inl (.inl eC), fun z1 nz1 => ?_⟩
    rw [hu1]
    have nez1 := st_ne d2.st nz1
    have d3 := d2.new (p := z1) (o := .lst (u1.map V.int)) nz1 trivial
    replace eC := same_new (o := .lst (u1.map V.int)) nz1 _ _ eC
    have ez1 : (upd H2 z1 (.lst (u1.map V.int))) z1 = some (.lst (u1.map V.int)) := upd_same
    generalize upd H2 z1 (.lst (u1.map V.int)) = H3 at d3 ez1 eC ⊢
    refine .inl ⟨CL, _, rfl, .inl (.inl eC), fun z2 nz2 => ?_⟩
    rw [hu2]
    have nez2 := st_ne d3.st nz2
    have d4 := d3.new (p := z2) (o := .lst (u2.map V.int)) nz2 trivial
    replace ez1 := same_new (o := .lst (u2.map V.int)) nz2 _ _ ez1
    have ez2 : (upd H3 z2 (.lst (u2.map V.int))) z2 = some (.lst (u2.map V.int)) := upd_same
    generalize upd H3 z2 (.lst (u2.map V.int)) = H4 at d4 ez2 ez1 ⊢
    refine .inl ⟨z1, z2, _, _, rfl, rfl, ez1, ez2, line_of (by rw [List.length_map, List.length_map]; omega), fun z3 nz3 => ?_⟩
    rw [← List.map_append]
    have nez3 := st_ne d4.st nz3
    have d5 := d4.new (p := z3) (o := .lst ((u1 ++ u2).map V.int)) nz3 trivial
    have ez3 : (upd H4 z3 (.lst ((u1 ++ u2).map V.int))) z3 = some (.lst ((u1 ++ u2).map V.int)) := upd_same
    generalize upd H4 z3 (.lst ((u1 ++ u2).map V.int)) = H5 at d5 ez3  ⊢
    have hall : ∀ x ∈ u1 ++ u2, 0 ≤ x := fun x hx => by
      rcases List.mem_append.mp hx with h | h
      · exact c0 x (mu1 x h)
      · exact c0 x (mu2 x h)
    generalize u1 ++ u2 = us at ez3 hall ⊢
    replace hx := d5.at hx (fun _ _ z => by cases z) dP.st
    replace hd := d5.at hd (fun _ _ z => by cases z) dP.st
    replace hd0 := d5.at hd0 (fun _ _ z => by cases z) dP.st
    replace hR := d5.at hR (fun _ _ z => by cases z) dP.st
    replace ha : HandAt c.Hand H5 x nm ap es := ⟨dx, dk0, hx, hd0⟩
    have dA := dP.trans d5
    refine ⟨z3, rfl, ⟨_, .inl (.inl ez3)⟩, for_list (K := K) (a := z3) (xs := us.map V.int) (fun j σ H' => ∃ (y8 y9 y10 y11 y12 : Option V), σ = [some (.ref a), some (.ref x), some (.ref dk), some (.int ap), some (.ref R), some (.int base'), some (.ref CL), some (.int r2), y8, y9, y10, y11, y12] ∧ Same H5 H' ∧ Wf H') ⟨_, _, _, _, _, rfl, Same.refl _, d5.wf⟩ (fun j σ H' _ h => by obtain ⟨_, _, _, _, _, _, h, _⟩ := h; exact .inl (.inl (h _ _ ez3))) (fun j v σ HL0 hxx h => ?_) (fun σ HZ h => ?_)⟩
    · obtain ⟨y8, y9, y10, y11, y12, rfl, smL, wL⟩ := h
      obtain ⟨cl, rfl, hcl⟩ : ∃ e, v = .int e ∧ e ∈ us := by
        rw [List.getElem?_map] at hxx
        cases h : us[j]? with
        | none => rw [h] at hxx; cases hxx
        | some e => rw [h] at hxx; cases hxx; exact ⟨e, rfl, List.mem_of_getElem? h⟩
      refine ⟨5, rfl, by decide, by decide, ?_⟩
      refine for_range (lo := 0) (n := 5) (fun i σ H' => ∃ (y9 y10 y11 y12 : Option V), σ = [some (.ref a), some (.ref x), some (.ref dk), some (.int ap), some (.ref R), some (.int base'), some (.ref CL), some (.int r2), some (.int cl), y9, y10, y11, y12] ∧ Same H5 H' ∧ Wf H') ⟨_, _, _, _, rfl, smL, wL⟩ (fun i σ HM0 hi h => ?_) (fun σ HM0 h => ?_)
      · obtain ⟨y9, y10, y11, y12, rfl, smM, wM⟩ := h
        refine ⟨.inl (.inl ⟨by decide, by decide⟩), ?_⟩
        refine .inl ⟨R, _, rfl, .inl (.inl (smM _ _ hR)), fun t nt => ?_⟩
        obtain ⟨us2, hu, lu, mu⟩ := cut_mem [e_0, e_1, e_2, e_3, e_4] none (some (1 + 4 * (if decide (0 + (i : Int) < 3) = true then 1 else 0)))
        have hu' : cutV [V.int e_0, .int e_1, .int e_2, .int e_3, .int e_4] none (some (1 + 4 * (if decide (0 + (i : Int) < 3) = true then 1 else 0))) = us2.map V.int := hu
        rw [hu']
        have smT := smM.trans (same_new (o := .lst (us2.map V.int)) nt)
        have wT := wM.new (o := .lst (us2.map V.int)) trivial nt
        have et : (upd HM0 t (.lst (us2.map V.int))) t = some (.lst (us2.map V.int)) := upd_same
        generalize upd HM0 t (.lst (us2.map V.int)) = HN0 at smT wT et ⊢
        refine ⟨t, rfl, ⟨_, .inl (.inl et)⟩, for_list (K := K) (a := t) (xs := us2.map V.int) (fun j2 σ H' => ∃ (y10 y11 y12 : Option V), σ = [some (.ref a), some (.ref x), some (.ref dk), some (.int ap), some (.ref R), some (.int base'), some (.ref CL), some (.int r2), some (.int cl), some (.int (0 + (i : Nat))), y10, y11, y12] ∧ Same HN0 H' ∧ Wf H') ⟨_, _, _, rfl, Same.refl _, wT⟩ (fun j2 σ H' _ h => by obtain ⟨_, _, _, _, h, _⟩ := h; exact .inl (.inl (h _ _ et))) (fun j2 v σ HP0 hx2 h => ?_) (fun σ HP0 h => ?_)⟩
        · obtain ⟨y10, y11, y12, rfl, smP, wP⟩ := h
          obtain ⟨n, rfl, hn⟩ : ∃ e, v = .int e ∧ e ∈ us2 := by
            rw [List.getElem?_map] at hx2
            cases h : us2[j2]? with
            | none => rw [h] at hx2; cases hx2
            | some e => rw [h] at hx2; cases hx2; exact ⟨e, rfl, List.mem_of_getElem? h⟩
          have n0 : 0 ≤ n := ln n (mu n hn)
          have sm5 := smT.trans smP
          refine ⟨x, nm, ap, es, 0 + (i : Int), cl, n, rfl, rfl, rfl, rfl, by omega, by omega, hall cl hcl, n0, ha.keep sm5, le, wP, fun p1 v1 HP1 e1 dv1 hq smA wA => ?_⟩
          have sm6 := sm5.trans smA
          refine ⟨dk, ap, es, 0 + (i : Int), cl, n, rfl, rfl, rfl, rfl, rfl, by omega, by omega, sm6 _ _ hd, nd, le, wA, fun p2 v2 HP2 e2 dv2 smB wB => ?_⟩
          have dv1' := dp_keep (fun p o e => smB p o e) dv1
          have e1' := smB _ _ e1
          have sh := ans_shaped es ap (0 + (i : Int)) cl n (ansR es (0 + (i : Int)) n)
          refine ⟨.tuple [.bool (ansR es (0 + (i : Int)) n), ansD es ap (0 + (i : Int)) cl n], .tuple [.bool (ansR es (0 + (i : Int)) n), ansD es ap (0 + (i : Int)) cl n], .tup (.inl (.inl e1')) (.cons (.bl _) (.cons dv1' .nil)), .tup (.inl (.inl e2)) (.cons (.bl _) (.cons dv2 .nil)), sh, sh, ?_⟩
          rw [SeqAt.eqv_refl _ (SeqAt.canLay_of_shaped sh)]
          refine ⟨_, v1, .inr (.inl (.inl e1')), rfl, ?_⟩
          refine ⟨_, isk_bool (kn_dp dv1'), ?_⟩
          refine ⟨_, v2, .inr (.inl (.inl e2)), rfl, ?_⟩
          refine ⟨_, isk_bool (kn_dp dv2), ?_⟩
          rw [bl_dp dv1', bl_dp dv2]
          refine iteB (c := !decide (V.bl _ = V.bl _)) (fun z => absurd rfl (nd_t z)) (fun _ => ?_)
          have sm7 := smP.trans (smA.trans smB)
          refine iteC (p := V.int (0 + (i : Int)) = V.int 3) (fun h3 => ?_) (fun h3 => ?_)
          · obtain ⟨q, rfl, eq, nq⟩ := hq (V.int.inj h3)
            replace eq := smB _ _ eq
            refine ⟨_, .ref q, .inr (.inl (.inl e1')), rfl, ?_⟩
            have lt2 : (tellsI es ap cl).length ≤ 1000 := by
              unfold tellsI
              rw [(PySem.W.sortI_perm _).length_eq, List.length_map]
              exact Nat.le_trans (List.length_filter_le _ _) le
            refine ⟨.inl ⟨rfl, _, .inl (.inl eq)⟩, q, _, _, rfl, rfl, eq, line_lt (by rw [List.length_map]; omega), ?_⟩
            refine ⟨_, _, _, rfl, fun b o e => ?_, wB.at trivial eq fun _ z => by cases z⟩
            have eP := smP b o e
            rw [upd_ne (ne_of_none eP nq)]
            exact smB _ _ (smA _ _ eP)
          · exact ⟨_, _, _, rfl, sm7, wB⟩
        · obtain ⟨y10, y11, y12, rfl, smP, wP⟩ := h
          exact ⟨_, _, _, _, rfl, smT.trans smP, wP⟩
      · obtain ⟨y9, y10, y11, y12, rfl, smM, wM⟩ := h
        exact ⟨_, _, _, _, _, rfl, smM, wM⟩
    · obtain ⟨y8, y9, y10, y11, y12, rfl, smL, wL⟩ := h
      exact bQ.mk wL (k _ (dA.trans (Dr.same' smL d5.st wL)))

abbrev s__law_forgotten : Stmt := topS 29
abbrev N__law_forgotten : List Str := ["_law_hand", "_law_kept", "_law_loan", "_law_found", "e", "_law_gone"]
theorem sc__law_forgotten : FnScope N__law_forgotten ["_law_hand", "_law_kept", "_law_loan"] (defScope s__law_forgotten) := ⟨rfl, rfl, rfl, by decide +kernel, rfl, by decide +kernel, by decide +kernel⟩
def sp__law_forgotten (K : PySem.W.Frag) (c : Ad) : Sp := fun vs H Q E => arg3 (fun s v u => ∃ (x dk de : Addr) (dx : Addr) (nm : Str) (ap : Int) (es : List (Int × Int)) (n : Int), s = .ref x ∧ v = .ref de ∧ u = .int n ∧ 0 ≤ n ∧ H x = some (.ins c.Hand dx (fsH nm ap dk)) ∧ H dk = some (.dK (kvI es)) ∧ H de = some (.dK (kvI es)) ∧ dk ≠ de ∧ Wf H ∧ (valI es n = none → Q (.bl true) H) ∧ ((valI es n).isSome = true → Q (.bl true) (upd (upd H dk (.dK (kvI (dropI es n)))) de (.dK (kvI (dropI es n)))))) vs
theorem ok__law_forgotten {P : Program} {w : World} {K : PySem.W.Frag} {mg : Str → Option Value} {base : Heap} {c : Ad} (T : Txt K mg c) : Ok P w K mg base 5 "_law_forgotten" ["_law_hand", "_law_kept", "_law_loan"] (sp__law_forgotten K c) := by
  refine okF T.f__law_forgotten sc__law_forgotten (fun vs H Q E h => ?_) (fun f cdv A outer sh H vs Q E hr h => ?_)
  · obtain ⟨s, v, u, rfl, h⟩ := arg3.ex h
    rfl
  · obtain ⟨s, v, u, rfl, h⟩ := arg3.ex h
    have tk : Takes (cxOf (L2.CX P w) P w K mg base N__law_forgotten "_law_forgotten" (defScope s__law_forgotten) f cdv A outer sh H (bE H E)) (fun cls d _ H' => bE H E cls d H') := takes_of rfl rfl rfl rfl
    refine ⟨_, pss_cons (ps_set (i := 3) sc__law_forgotten.nd rfl (.inl rfl) pe_non)
      (pss_cons (ps_tryA (K := K) T.x_LentError sc__law_forgotten.nd (i := 4) rfl tk (fun W pn xe tk pO => pss_one (ps_set (i := 3) sc__law_forgotten.nd rfl (.inl rfl) (pe_mS (CS := cs_Hand c) (lv 0) (okc_Hand T) (okm_Hand_forgets T) hr tk (pa_cons (lv 2) pa_nil)))) (fun a oe cls d pn hz hf => pss_one (ps_ret (pe_andU (K := K) (pe_cmp (pc_dnotin (roomU1 hr :) (lv 2) (lv 1)) (by rfl)) (pe_andU (K := K) (pe_callB (callU_isX (K := K) hz hf) (by rfl) T.m_isinstance (by decide +kernel) (pa_cons (lv 4) (pa_cons (pe_xc T.x_NoLoan) pa_nil))) (pe_one (pe_notU (K := K) (pe_callB (callU_isX (K := K) hz hf) (by rfl) T.m_isinstance (by decide +kernel) (pa_cons (lv 4) (pa_cons (pe_xc T.x_NoMoment) pa_nil))))))))))
      (pss_cons (ps_set (i := 5) sc__law_forgotten.nd rfl (.inl rfl) (pe_dpop2 (lv 1) (lv 2) pe_non ⟨by rfl, by rfl, by rfl, by rfl⟩))
      (pss_one (ps_ret (pe_andU (K := K) (pe_cmpR opU_isnot (lv 5) pe_non (nomark _)) (pe_one (pe_cmpR opU_is (lv 3) pe_non (nomark _)))))))), ?_⟩
    obtain ⟨x, dk, de, dx, nm, ap, es, n, rfl, rfl, rfl, n0, hx, hd, he, nde, wf, kN, kS⟩ := h
    have ha : HandAt c.Hand H x nm ap es := ⟨dx, dk, hx, hd⟩
    cases hv : valI es n with
    | none =>
      refine ⟨x, c.Hand, dx, _, rfl, hx, rfl, rfl, x, nm, ap, es, rfl, rfl, ha, wf, .inr ⟨trivial, fun m e _ => by cases e; exact hv, ?_⟩⟩
      refine ⟨true, exc_under T.x_NoLoan T.x_LentError T.u_NoLoan_LentError, fun _ e2 ne => ?_, fun z => by cases z⟩
      have hg : DGet H de (.int n) none := by
        have := DGet.k (k := .inl n) he
        rw [kvI_val, hv] at this
        exact this
      refine ⟨de, _, rfl, hg, ?_⟩
      refine ⟨_, rfl, rfl, T.x_NoLoan.cc, _, _, _, rfl, fun _ h => h, exc_is T.x_NoLoan T.u_NoLoan_NoLoan T.x_NoLoan T.u_NoLoan_NoLoan, ?_⟩
      refine ⟨_, rfl, rfl, T.x_NoLoan.cc, _, _, _, rfl, fun _ h => h, exc_is T.x_NoLoan T.u_NoLoan_NoLoan T.x_NoMoment T.u_NoLoan_NoMoment, ?_⟩
      exact bQ.same wf (Same.refl _) (kN hv)
    | some e =>
      refine ⟨x, c.Hand, dx, _, rfl, hx, rfl, rfl, x, nm, ap, es, rfl, rfl, ha, wf, .inl ⟨n, e, rfl, n0, hv, fun dx' dk' hx' hd' => ?_⟩⟩
      obtain rfl : dk = dk' := by
        rw [hx] at hx'
        cases hx'
        rfl
      have he2 : (upd H dk (.dK (kvI (dropI es n)))) de = some (.dK (kvI es)) := by rw [upd_ne nde.symm]; exact he
      have w2 := wf.at (o := .dK (kvI (dropI es n))) trivial hd fun _ z => by cases z
      have kS' := kS (by rw [hv]; rfl)
      generalize upd H dk (.dK (kvI (dropI es n))) = H2 at he2 w2 kS' ⊢
      refine ⟨de, rfl, .inl ⟨_, .inl he2⟩, kvI es, .inl n, he2, rfl, ?_⟩
      rw [kvI_val, kvI_drop, hv]
      refine ⟨fun v ev => ?_, fun z => by cases z⟩
      cases ev
      exact bQ.mk (w2.at trivial he2 fun _ z => by cases z) kS'

abbrev s_law : Stmt := topS 30
abbrev N_law : List Str := ["_law_script", "_law_state_here", "_law_name_here", "_law_apart_here", "_law_loans_here", "_law_base", "_law_hand", "_law_kept", "_law_k", "_law_way", "_law_loan", "_law_end_here"]
theorem sc_law : FnScope N_law ["_law_script"] (defScope s_law) := ⟨rfl, rfl, rfl, by decide +kernel, rfl, by decide +kernel, by decide +kernel⟩
def sp_law (K : PySem.W.Frag) : Sp := fun vs H Q E => arg1 (fun s => ∃ ns, ScrL K H s ns ∧ Wf H ∧ ∀ H', Q (.bl true) H') vs
theorem ok_law {P : Program} {w : World} {K : PySem.W.Frag} {mg : Str → Option Value} {base : Heap} {f : Addr} {fd : FuncData} (F : Fun K "law" "law" s_law f fd) {c : Ad} (T : Txt K mg c) : FnOk P w K mg base CX0 7 f fd ["_law_script"] (sp_law K) := by
  refine F.ok sc_law (fun vs H Q E h => ?_) (fun cdv A outer sh H vs Q E hr h => ?_)
  · obtain ⟨s, rfl, h⟩ := arg1.ex h
    rfl
  · obtain ⟨s, rfl, h⟩ := arg1.ex h
    refine ⟨_, pss_cons (ps_set (i := 1) sc_law.nd rfl (.inl rfl) (pe_f (ok__law_state (K := K) T) (hr.mono (by decide)) passL (pa_cons (pe_f (ok__law_cell_at (K := K) T) (hr.mono (by decide)) passL (pa_cons (lv 0) (pa_cons pe_int pa_nil))) (pa_cons pe_int pa_nil))))
      (pss_cons (ps_set (i := 2) sc_law.nd rfl (.inl rfl) (pe_f (ok__law_name (K := K) T) (hr.mono (by decide)) passL (pa_cons (lv 1) pa_nil)))
      (pss_cons (ps_set (i := 3) sc_law.nd rfl (.inl rfl) (pe_f (ok__law_apart (K := K) T) (hr.mono (by decide)) passL (pa_cons (lv 1) pa_nil)))
      (pss_cons (ps_set (i := 4) sc_law.nd rfl (.inl rfl) (pe_f (ok__law_loans (K := K) T) (hr.mono (by decide)) passL (pa_cons (lv 1) pa_nil)))
      (pss_cons (ps_set (i := 5) sc_law.nd rfl (.inl rfl) (pe_ix (ixU (K := K)) (pe_lst (pa_cons pe_int (pa_cons (pe_f (ok__law_digit (K := K) T) (hr.mono (by decide)) passL (pa_cons (lv 1) (pa_cons (pe_op opU_pow pe_int pe_int) pa_nil))) pa_nil))) (pe_f (ok__law_digit (K := K) T) (hr.mono (by decide)) passL (pa_cons (lv 1) (pa_cons pe_int pa_nil))) (fun _ _ => rfl)))
      (pss_cons (ps_set (i := 6) sc_law.nd rfl (.inl rfl) (pe_mkS (ok_Hand___init__ (K := K) T (x := "Hand") ⟨rfl, rfl⟩) (hr.mono (by decide)) takes0 (pa_cons (lv 2) (pa_cons (lv 3) pa_nil))))
      (pss_cons (ps_set (i := 7) sc_law.nd rfl (.inl rfl) pe_dnewK)
      (pss_cons (ps_for (PassesOwn.never) rfl (pi_range2 (by rfl) T.m_range (pa_cons pe_int (pa_cons (pe_callB (callU_max2 rfl) (by rfl) T.m_max (by decide +kernel) (pa_cons pe_int (pa_cons (pe_callB (callU_min2 rfl) (by rfl) T.m_min (by decide +kernel) (pa_cons pe_int (pa_cons (pe_callB (callU_len (K := K)) (by rfl) T.m_len (by decide +kernel) (pa_cons (lv 0) pa_nil)) pa_nil))) pa_nil))) pa_nil))) (pg_name (i := 8) sc_law.nd rfl (.inl rfl))
      (pss_cons (ps_set (i := 1) sc_law.nd rfl (.inl rfl) (pe_f (ok__law_state (K := K) T) (hr.mono (by decide)) passL (pa_cons (pe_f (ok__law_cell_at (K := K) T) (hr.mono (by decide)) passL (pa_cons (lv 0) (pa_cons (lv 8) pa_nil))) (pa_cons (lv 8) pa_nil))))
      (pss_cons (ps_set (i := 9) sc_law.nd rfl (.inl rfl) (pe_f (ok__law_digit (K := K) T) (hr.mono (by decide)) passL (pa_cons (lv 1) (pa_cons pe_int pa_nil))))
      (pss_cons (ps_set (i := 10) sc_law.nd rfl (.inl rfl) (pe_ix (ixU (K := K)) (lv 4) (pe_f (ok__law_digit (K := K) T) (hr.mono (by decide)) passL (pa_cons (lv 1) (pa_cons pe_int pa_nil))) (fun _ _ => rfl)))
      (pss_cons (ps_set (i := 11) sc_law.nd rfl (.inl rfl) (pe_f (ok__law_end (K := K) T) (hr.mono (by decide)) passL (pa_cons (lv 1) (pa_cons (lv 5) pa_nil))))
      (pss_cons (ps_cut (ps_if (pt_cmpU (opU_eq (K := K) hr) (lv 9) pe_int (nomark _))
      (pss_one (ps_if (pt_not (pt_truthU (K := K) (pe_f (ok__law_forgotten (K := K) T) (hr.mono (by decide)) passL (pa_cons (lv 6) (pa_cons (lv 7) (pa_cons (lv 10) pa_nil)))) (by intro _; rfl)))
      (pss_one (ps_ret pe_bl)) pss_nil)) (pss_cons (ps_if (pt_cmpU opU_isnot (pe_mS (CS := cs_Hand c) (lv 6) (okc_Hand T) (okm_Hand_hears T) (hr.mono (by decide)) takes0 (pa_cons (lv 10) (pa_cons (lv 11) pa_nil))) pe_non (nomark _))
      (pss_one (ps_ret pe_bl)) pss_nil)
      (pss_one (ps_dput (roomU1 hr :) (lv 7) (lv 10) (pe_callB (callU_max2 rfl) (by rfl) T.m_max (by decide +kernel) (pa_cons (lv 11) (pa_cons (pe_dget2 (roomU1 hr :) (lv 7) (lv 10) (lv 11) ⟨by rfl, by rfl, by rfl, by rfl⟩) pa_nil))) (by rfl))))))
      (pss_one (ps_if (PW.pt (pw_or (pt_not (pt_truthU (K := K) (pe_f (ok__law_hand_right (K := K) T) hr passL (pa_cons (lv 1) (pa_cons (lv 6) (pa_cons (lv 7) (pa_cons (lv 3) (pa_cons (lv 4) (pa_cons (lv 5) pa_nil))))))) (by intro _; rfl))) (pw_or1 (pt_cmpU (opU_ne (K := K) hr) (pe_tup (pa_cons (pe_fldK (K := K) (lv 6) rfl) (pa_cons (pe_fldK (K := K) (lv 6) rfl) pa_nil))) (pe_tup (pa_cons (lv 2) (pa_cons (lv 3) pa_nil))) (nomark _)))))
      (pss_one (ps_ret pe_bl)) pss_nil))))))))
      (pss_one (ps_ret pe_bl))))))))), ?_⟩
    obtain ⟨ns, ⟨a0, rfl, hS, hl⟩, wf, k⟩ := h
    refine ⟨ns, 0, ⟨a0, rfl, hS, hl⟩, rfl, by decide, wf, fun n => ?_⟩
    refine ⟨n, 0, rfl, rfl, by decide, by decide, wf, fun p q a na hp => ?_⟩
    have s0 : St2 (upd H a (stL p q)) a := ⟨p, q, upd_same, hp⟩
    have d0 := Dr.refl s0 (wf.new (o := stL p q) trivial na)
    have smA : Same H (upd H a (stL p q)) := same_new na
    have smH : ∀ {H2 : Hp}, Dr a (upd H a (stL p q)) H2 → Same H H2 := fun {H2} d b o e => d.kp b o (ne_of_none e na) (smA b o e)
    generalize upd H a (stL p q) = HB0 at s0 d0 smH ⊢
    refine ⟨a, rfl, s0, d0.wf, fun nm p1 q1 snm n1 => ?_⟩
    have d1 := d0.drawn (q := q1) n1
    generalize upd HB0 a (stL p1 q1) = H1 at d1 ⊢
    refine ⟨a, rfl, d1.st, d1.wf, fun ap H2 ap0 ap1 dA => ?_⟩
    have d2 := d1.trans dA
    refine ⟨a, rfl, d2.st, d2.wf, fun R e_0 e_1 e_2 e_3 e_4 H3 dL eR neR g0 g1 g2 g3 g4 => ?_⟩
    have d3 := d2.trans dL
    have D3 := d3
    replace d3 := Dr.refl D3.st D3.wf
    refine ⟨⟨by decide, by decide, by decide⟩, ?_⟩
    refine ⟨a, _, rfl, rfl, d3.st, bas_lt (by decide) (by decide), d3.wf, fun r4 p4 q4 g4 l4 n4 => ?_⟩
    have d4 := d3.drawn (q := q4) n4
    replace eR := (upd_ne (o := stL p4 q4) neR).trans eR
    generalize upd H3 a (stL p4 q4) = H4 at d4 eR ⊢
    have l4' : r4 < 1000000000000 := l4
    refine ⟨line_of (show 2 ≤ 16777216 by decide), fun bl nbl => ?_⟩
    have nebl := st_ne d4.st nbl
    have d5 := d4.new (p := bl) (o := .lst [.int 40, .int r4]) nbl trivial
    replace eR := same_new (o := .lst [.int 40, .int r4]) nbl _ _ eR
    have ebl : (upd H4 bl (.lst [.int 40, .int r4])) bl = some (.lst [.int 40, .int r4]) := upd_same
    generalize upd H4 bl (.lst [.int 40, .int r4]) = H5 at d5 ebl eR ⊢
    refine ⟨a, 2, rfl, rfl, d5.st, bas_lt (by decide) (by decide), d5.wf, fun r6 p6 q6 g6 l6 n6 => ?_⟩
    have d6 := d5.drawn (q := q6) n6
    replace ebl := (upd_ne (o := stL p6 q6) nebl).trans ebl
    replace eR := (upd_ne (o := stL p6 q6) neR).trans eR
    generalize upd H5 a (stL p6 q6) = H6 at d6 ebl eR ⊢
    obtain ⟨v, hv, mv⟩ := at_lt (xs := [V.int 40, .int r4]) g6 (by assumption)
    refine ⟨_, v, .inl (.inl (.inl ebl)), hv, ?_⟩
    obtain ⟨base', rfl, b0, b1⟩ : ∃ b, v = .int b ∧ 0 ≤ b ∧ b ≤ 1000000000000 := by
      simp only [List.mem_cons, List.not_mem_nil, or_false] at mv
      rcases mv with rfl | rfl
      · exact ⟨_, rfl, by decide, by decide⟩
      · exact ⟨_, rfl, by omega, by omega⟩
    intro x dx nx nd ne
    have smX : Same H6 (upd (upd H6 dx (.own x)) x (.ins c.Hand dx [])) := fun b o e => by rw [upd_ne (ne_of_none e nx), upd_ne (ne_of_none e nd)]; exact e
    have wX := d6.wf.made (C := c.Hand) (fs := []) nx nd ne
    refine ⟨x, dx, rfl, rfl, upd_same, wX, .inl ⟨nm, ap, rfl, rfl, snm, ap0, ap1, fun dk H7 ndk hx7 hd7 kx w7 => ⟨rfl, ?_⟩⟩⟩
    have sm7 : Same H6 H7 := fun b o e => kx b o (ne_of_none e nx) (smX b o e)
    have ndk2 : H6 dk = none := by
      cases e : H6 dk with
      | none => rfl
      | some o =>
        have := smX dk o e
        rw [ndk] at this
        cases this
    have d7 := (D3.trans d6).trans (Dr.same' sm7 d6.st w7)
    replace eR := sm7 _ _ eR
    have fk : H dk = none := by
      cases e : H dk with
      | none => rfl
      | some o =>
        have := smH (D3.trans d6) dk o e
        rw [ndk2] at this
        cases this
    refine fun de nde => ?_
    have sd := same_new (o := .dK []) nde
    have fe : H de = none := by
      cases e : H de with
      | none => rfl
      | some o =>
        have := smH d7 de o e
        rw [nde] at this
        cases this
    have dD := d7.new (p := de) (o := .dK []) nde trivial
    have P0 : Pos c H (upd H7 de (.dK [])) a x dx dk de nm ap [] [] := ⟨dD.st, sd _ _ hx7, sd _ _ hd7, upd_same, ne_of_none hd7 nde, na, fk, fe, smH dD, dD.wf, List.nodup_nil, List.nodup_nil, fun _ h => by cases h⟩
    replace eR := sd _ _ eR
    generalize upd H7 de (.dK []) = HS at P0 eR ⊢
    refine .inl ⟨_, .inl (P0.sm.seq hS), ?_⟩
    refine ⟨1, _, rfl, ⟨by decide, by decide, by split <;> omega, by split <;> omega⟩, ?_⟩
    have hall : ∀ n ∈ [e_0, e_1, e_2, e_3, e_4], (0 : Int) ≤ n := fun n hn => by
      simp only [List.mem_cons, List.not_mem_nil, or_false] at hn
      rcases hn with rfl | rfl | rfl | rfl | rfl <;> omega
    refine for_range (lo := 1) (n := _) (fun i σ H' => ∃ (a : Addr) (es : List (Int × Int)) (y8 y9 y10 y11 : Option V), σ = [some (.ref a0), some (.ref a), some (.str nm), some (.int ap), some (.ref R), some (.int base'), some (.ref x), some (.ref de), y8, y9, y10, y11] ∧ Pos c H H' a x dx dk de nm ap es es ∧ H' R = some (.lst [.int e_0, .int e_1, .int e_2, .int e_3, .int e_4]) ∧ es.length ≤ i) ⟨a, [], _, _, _, _, rfl, P0, eR, Nat.le_refl _⟩ (fun i σ HL hi hp => ?_) (fun σ HM hp => ?_)
    · obtain ⟨a1, es, y8, y9, y10, y11, rfl, P, eR, le⟩ := hp
      have hi2 : i < 31 := by split at hi <;> omega
      refine ⟨ns, _, ⟨a0, rfl, P.sm.seq hS, hl⟩, rfl, by omega, P.wf, fun n => ?_⟩
      refine ⟨n, _, rfl, rfl, by omega, by omega, P.wf, fun p q a na hp => ?_⟩
      replace P := P.state (u := p) (v := q) na hp
      have neR := ne_of_none eR na
      replace eR := same_new (o := stL p q) na _ _ eR
      generalize upd HL a (stL p q) = HL0 at P eR ⊢
      have dL0 := Dr.refl P.st P.wf
      refine ⟨a, 5, rfl, rfl, dL0.st, bas_lt (by decide) (by decide), dL0.wf, fun rL1 pL1 qL1 gL1 lL1 nL1 => ?_⟩
      have dL1 := dL0.drawn (q := qL1) nL1
      replace eR := (upd_ne (o := stL pL1 qL1) neR).trans eR
      generalize upd HL0 a (stL pL1 qL1) = HL1 at dL1 eR ⊢
      refine ⟨a, 5, rfl, rfl, dL1.st, bas_lt (by decide) (by decide), dL1.wf, fun rL2 pL2 qL2 gL2 lL2 nL2 => ?_⟩
      have dL2 := dL1.drawn (q := qL2) nL2
      replace eR := (upd_ne (o := stL pL2 qL2) neR).trans eR
      generalize upd HL1 a (stL pL2 qL2) = HL2 at dL2 eR ⊢
      obtain ⟨v, hv, mv⟩ := at_lt (xs := [V.int e_0, .int e_1, .int e_2, .int e_3, .int e_4]) gL2 (by exact lL2)
      refine ⟨_, v, .inl (.inl (.inl eR)), hv, ?_⟩
      obtain ⟨lo, rfl, lo0⟩ : ∃ b, v = .int b ∧ 0 ≤ b := by
        have mv' : v ∈ [e_0, e_1, e_2, e_3, e_4].map V.int := mv
        obtain ⟨b, hb, rfl⟩ := List.mem_map.mp mv'
        exact ⟨b, rfl, hall b hb⟩
      refine ⟨a, base', rfl, rfl, b0, by omega, dL2.st, dL2.wf, fun en HL3 f0 f1 dE => ?_⟩
      have dL3 := dL2.trans dE
      replace P := P.dr dL3
      replace eR := dE.kp _ _ neR eR
      generalize HL3 = HT0 at P eR ⊢
      refine ⟨fun σ H' => ∃ (fs : List (Int × Int)) (y8 y9 y10 y11 : Option V), σ = [some (.ref a0), some (.ref a), some (.str nm), some (.int ap), some (.ref R), some (.int base'), some (.ref x), some (.ref de), y8, y9, y10, y11] ∧ Pos c H H' a x dx dk de nm ap fs fs ∧ H' R = some (.lst [.int e_0, .int e_1, .int e_2, .int e_3, .int e_4]) ∧ fs.length ≤ i + 1, ?_, ?_⟩
      · refine iteC (p := V.int rL1 = V.int 0) (fun h0 => ?_) (fun h0 => ?_)
        · refine ⟨x, dk, de, dx, nm, ap, es, lo, rfl, rfl, rfl, lo0, P.hx, P.hk, P.he, P.nd, P.wf, fun hv => ?_, fun hv => ?_⟩
          · exact ⟨es, _, _, _, _, rfl, P, eR, by omega⟩
          · have nk : R ≠ dk := ne_of eR P.hk fun z => by cases z
            have nke : R ≠ de := ne_of eR P.he fun z => by cases z
            have lgs := drop_len P.ue hv
            have hb : ∀ p ∈ dropI es lo, 0 ≤ p.1 ∧ 0 ≤ p.2 := fun p hp => P.bnd p (List.mem_filter.mp hp).1
            replace P := (P.setk (P.uk.drop lo)).sete (P.ue.drop lo) hb
            exact ⟨dropI es lo, _, _, _, _, rfl, P, by rw [upd_ne nke, upd_ne nk]; exact eR, by omega⟩
        · have nk : R ≠ dk := ne_of eR P.hk fun z => by cases z
          have nke : R ≠ de := ne_of eR P.he fun z => by cases z
          refine ⟨x, c.Hand, dx, _, rfl, P.hx, rfl, rfl, x, nm, ap, es, rfl, rfl, P.hand, by omega, P.wf, .inl ⟨lo, en, rfl, rfl, lo0, f0, fun dx' dk' hx' hd' => ?_⟩⟩
          obtain rfl : dk = dk' := by
            have hx2 := P.hx
            rw [hx2] at hx'
            cases hx'
            rfl
          replace P := P.setk (ek' := heard es lo en) (P.uk.put _ _)
          replace eR : (upd HT0 dk (.dK (kvI (heard es lo en)))) R = some (.lst [.int e_0, .int e_1, .int e_2, .int e_3, .int e_4]) := by rw [upd_ne nk]; exact eR
          generalize upd HT0 dk (.dK (kvI (heard es lo en))) = HT1 at P eR ⊢
          refine ⟨de, rfl, .inl ⟨_, .inl P.he⟩, (valI es lo).map V.int, kvI_val es lo ▸ DGet.k (k := .inl lo) P.he, ?_⟩
          have eg : ((valI es lo).map V.int).getD (.int en) = .int ((valI es lo).getD en) := by cases valI es lo <;> rfl
          rw [eg]
          refine ⟨de, _, rfl, .inl ⟨kvI es, .inl lo, P.he, rfl, line_lt (by rw [kvI_len]; omega), rfl⟩, ?_⟩
          rw [kvI_put, heard_eq es lo f0]
          have hb : ∀ p ∈ heard es lo en, 0 ≤ p.1 ∧ 0 ≤ p.2 := by
            rw [← heard_eq es lo f0]
            refine put_bnd P.bnd lo0 ?_
            split <;> omega
          replace P := P.sete (ee' := heard es lo en) (P.ue.put _ _) hb
          exact ⟨heard es lo en, _, _, _, _, rfl, P, by rw [upd_ne nke]; exact eR, Nat.le_trans (put_len _ _ _) (by omega)⟩
      · rintro σ' HU0 ⟨fs, z8, z9, z10, z11, rfl, P, eR, lf⟩
        refine ⟨a, x, de, R, nm, fs, ap, base', e_0, e_1, e_2, e_3, e_4, rfl, rfl, rfl, rfl, rfl, rfl, b0, P.st, P.hand, P.he, eR, hall, P.ue, by omega, P.wf, fun HV0 dV => ?_⟩
        replace P := P.dr dV
        replace eR := dV.kp _ _ neR eR
        refine ⟨x, c.Hand, dx, _, _, rfl, P.hx, T.o_Hand.cl, T.n_Hand_name, rfl, ?_⟩
        refine ⟨x, c.Hand, dx, _, _, rfl, P.hx, T.o_Hand.cl, T.n_Hand_apart, rfl, ?_⟩
        refine ⟨line_of (show 2 ≤ 16777216 by decide), fun t1 nt1 => ?_⟩
        replace P := P.dr ((Dr.refl P.st P.wf).new (o := .tup [.str nm, .int ap]) nt1 trivial)
        replace eR := same_new (o := .tup [.str nm, .int ap]) nt1 _ _ eR
        have et1 : (upd HV0 t1 (.tup [.str nm, .int ap])) t1 = some (.tup [.str nm, .int ap]) := upd_same
        generalize upd HV0 t1 (.tup [.str nm, .int ap]) = HV1 at P eR et1 ⊢
        refine ⟨line_of (show 2 ≤ 16777216 by decide), fun t2 nt2 => ?_⟩
        replace P := P.dr ((Dr.refl P.st P.wf).new (o := .tup [.str nm, .int ap]) nt2 trivial)
        replace eR := same_new (o := .tup [.str nm, .int ap]) nt2 _ _ eR
        replace et1 := same_new (o := .tup [.str nm, .int ap]) nt2 _ _ et1
        have et2 : (upd HV1 t2 (.tup [.str nm, .int ap])) t2 = some (.tup [.str nm, .int ap]) := upd_same
        generalize upd HV1 t2 (.tup [.str nm, .int ap]) = HV2 at P eR et1 et2 ⊢
        have sh : SeqAt.shaped (.tuple [.str nm, .int ap]) = true := by
          unfold SeqAt.shaped
          show (PyData.strOk nm && (true && true) && decide (max 0 (max 0 0) + 1 ≤ 64)) = true
          rw [snm.2]
          rfl
        refine ⟨.tuple [.str nm, .int ap], .tuple [.str nm, .int ap], .tup (.inl (.inl et1)) (.cons (.str _) (.cons (.int _) .nil)), .tup (.inl (.inl et2)) (.cons (.str _) (.cons (.int _) .nil)), sh, sh, ?_⟩
        rw [SeqAt.eqv_refl _ (SeqAt.canLay_of_shaped sh)]
        exact ⟨a, fs, _, _, _, _, rfl, P, eR, lf⟩
    · obtain ⟨a1, es, y8, y9, y10, y11, rfl, P, eR, le⟩ := hp
      exact k _
theorem all_mk {l : PySem.W.OpenLaw} {w : World} {K : PySem.W.Frag} {h : Heap} {mg : Str → Option Value} {fa : Addr} (X : K.In h) (G : h.Ns mainGlobals mg) (hfa : mg "law" = some (.ref fa))
    {f1 : Addr} {od1 an1 : Option Addr} {sl1 : Array (Option Value)} {oc1 kV1 dc1 pm1 cd1 ct1 : Value}
    (a1 : PySem.W.nsIn K mainGlobals "is_name" = some (some (.ref f1))) (l1 : K.lookup f1 = some ⟨oc1, od1, .func (PySem.W.fnOf "is_name" "is_name" (defArgs (topS 9)) (defBody (topS 9)) (defScope (topS 9)) .none kV1 dc1 pm1 an1 cd1 ct1), sl1⟩) (c1 : PySem.W.codeIn K cd1 "is_name" = true) (k1 : PySem.W.keepIn K (.ref f1) = true)
    {f2 : Addr} {od2 an2 : Option Addr} {sl2 : Array (Option Value)} {oc2 kV2 dc2 pm2 cd2 ct2 : Value}
    (a2 : PySem.W.nsIn K mainGlobals "is_whole" = some (some (.ref f2))) (l2 : K.lookup f2 = some ⟨oc2, od2, .func (PySem.W.fnOf "is_whole" "is_whole" (defArgs (topS 10)) (defBody (topS 10)) (defScope (topS 10)) .none kV2 dc2 pm2 an2 cd2 ct2), sl2⟩) (c2 : PySem.W.codeIn K cd2 "is_whole" = true) (k2 : PySem.W.keepIn K (.ref f2) = true)
    {f3 : Addr} {od3 an3 : Option Addr} {sl3 : Array (Option Value)} {oc3 kV3 dc3 pm3 cd3 ct3 : Value}
    (a3 : PySem.W.nsIn K mainGlobals "is_count" = some (some (.ref f3))) (l3 : K.lookup f3 = some ⟨oc3, od3, .func (PySem.W.fnOf "is_count" "is_count" (defArgs (topS 11)) (defBody (topS 11)) (defScope (topS 11)) .none kV3 dc3 pm3 an3 cd3 ct3), sl3⟩) (c3 : PySem.W.codeIn K cd3 "is_count" = true) (k3 : PySem.W.keepIn K (.ref f3) = true)
    {f4 : Addr} {od4 an4 : Option Addr} {sl4 : Array (Option Value)} {oc4 kV4 dc4 pm4 cd4 ct4 : Value}
    (a4 : PySem.W.nsIn K mainGlobals "sure_clock" = some (some (.ref f4))) (l4 : K.lookup f4 = some ⟨oc4, od4, .func (PySem.W.fnOf "sure_clock" "sure_clock" (defArgs (topS 14)) (defBody (topS 14)) (defScope (topS 14)) .none kV4 dc4 pm4 an4 cd4 ct4), sl4⟩) (c4 : PySem.W.codeIn K cd4 "sure_clock" = true) (k4 : PySem.W.keepIn K (.ref f4) = true)
    {f5 : Addr} {od5 an5 : Option Addr} {sl5 : Array (Option Value)} {oc5 kV5 dc5 pm5 cd5 ct5 : Value}
    (a5 : PySem.W.nsIn K mainGlobals "_law_cell_at" = some (some (.ref f5))) (l5 : K.lookup f5 = some ⟨oc5, od5, .func (PySem.W.fnOf "_law_cell_at" "_law_cell_at" (defArgs (topS 17)) (defBody (topS 17)) (defScope (topS 17)) .none kV5 dc5 pm5 an5 cd5 ct5), sl5⟩) (c5 : PySem.W.codeIn K cd5 "_law_cell_at" = true) (k5 : PySem.W.keepIn K (.ref f5) = true)
    {f6 : Addr} {od6 an6 : Option Addr} {sl6 : Array (Option Value)} {oc6 kV6 dc6 pm6 cd6 ct6 : Value}
    (a6 : PySem.W.nsIn K mainGlobals "_law_state" = some (some (.ref f6))) (l6 : K.lookup f6 = some ⟨oc6, od6, .func (PySem.W.fnOf "_law_state" "_law_state" (defArgs (topS 18)) (defBody (topS 18)) (defScope (topS 18)) .none kV6 dc6 pm6 an6 cd6 ct6), sl6⟩) (c6 : PySem.W.codeIn K cd6 "_law_state" = true) (k6 : PySem.W.keepIn K (.ref f6) = true)
    {f7 : Addr} {od7 an7 : Option Addr} {sl7 : Array (Option Value)} {oc7 kV7 dc7 pm7 cd7 ct7 : Value}
    (a7 : PySem.W.nsIn K mainGlobals "_law_mixed" = some (some (.ref f7))) (l7 : K.lookup f7 = some ⟨oc7, od7, .func (PySem.W.fnOf "_law_mixed" "_law_mixed" (defArgs (topS 19)) (defBody (topS 19)) (defScope (topS 19)) .none kV7 dc7 pm7 an7 cd7 ct7), sl7⟩) (c7 : PySem.W.codeIn K cd7 "_law_mixed" = true) (k7 : PySem.W.keepIn K (.ref f7) = true)
    {f8 : Addr} {od8 an8 : Option Addr} {sl8 : Array (Option Value)} {oc8 kV8 dc8 pm8 cd8 ct8 : Value}
    (a8 : PySem.W.nsIn K mainGlobals "_law_digit" = some (some (.ref f8))) (l8 : K.lookup f8 = some ⟨oc8, od8, .func (PySem.W.fnOf "_law_digit" "_law_digit" (defArgs (topS 20)) (defBody (topS 20)) (defScope (topS 20)) .none kV8 dc8 pm8 an8 cd8 ct8), sl8⟩) (c8 : PySem.W.codeIn K cd8 "_law_digit" = true) (k8 : PySem.W.keepIn K (.ref f8) = true)
    {f9 : Addr} {od9 an9 : Option Addr} {sl9 : Array (Option Value)} {oc9 kV9 dc9 pm9 cd9 ct9 : Value}
    (a9 : PySem.W.nsIn K mainGlobals "_law_name" = some (some (.ref f9))) (l9 : K.lookup f9 = some ⟨oc9, od9, .func (PySem.W.fnOf "_law_name" "_law_name" (defArgs (topS 21)) (defBody (topS 21)) (defScope (topS 21)) .none kV9 dc9 pm9 an9 cd9 ct9), sl9⟩) (c9 : PySem.W.codeIn K cd9 "_law_name" = true) (k9 : PySem.W.keepIn K (.ref f9) = true)
    {f10 : Addr} {od10 an10 : Option Addr} {sl10 : Array (Option Value)} {oc10 kV10 dc10 pm10 cd10 ct10 : Value}
    (a10 : PySem.W.nsIn K mainGlobals "_law_apart" = some (some (.ref f10))) (l10 : K.lookup f10 = some ⟨oc10, od10, .func (PySem.W.fnOf "_law_apart" "_law_apart" (defArgs (topS 22)) (defBody (topS 22)) (defScope (topS 22)) .none kV10 dc10 pm10 an10 cd10 ct10), sl10⟩) (c10 : PySem.W.codeIn K cd10 "_law_apart" = true) (k10 : PySem.W.keepIn K (.ref f10) = true)
    {f11 : Addr} {od11 an11 : Option Addr} {sl11 : Array (Option Value)} {oc11 kV11 dc11 pm11 cd11 ct11 : Value}
    (a11 : PySem.W.nsIn K mainGlobals "_law_end" = some (some (.ref f11))) (l11 : K.lookup f11 = some ⟨oc11, od11, .func (PySem.W.fnOf "_law_end" "_law_end" (defArgs (topS 23)) (defBody (topS 23)) (defScope (topS 23)) .none kV11 dc11 pm11 an11 cd11 ct11), sl11⟩) (c11 : PySem.W.codeIn K cd11 "_law_end" = true) (k11 : PySem.W.keepIn K (.ref f11) = true)
    {f12 : Addr} {od12 an12 : Option Addr} {sl12 : Array (Option Value)} {oc12 kV12 dc12 pm12 cd12 ct12 : Value}
    (a12 : PySem.W.nsIn K mainGlobals "_law_loans" = some (some (.ref f12))) (l12 : K.lookup f12 = some ⟨oc12, od12, .func (PySem.W.fnOf "_law_loans" "_law_loans" (defArgs (topS 24)) (defBody (topS 24)) (defScope (topS 24)) .none kV12 dc12 pm12 an12 cd12 ct12), sl12⟩) (c12 : PySem.W.codeIn K cd12 "_law_loans" = true) (k12 : PySem.W.keepIn K (.ref f12) = true)
    {f13 : Addr} {od13 an13 : Option Addr} {sl13 : Array (Option Value)} {oc13 kV13 dc13 pm13 cd13 ct13 : Value}
    (a13 : PySem.W.nsIn K mainGlobals "_law_answer" = some (some (.ref f13))) (l13 : K.lookup f13 = some ⟨oc13, od13, .func (PySem.W.fnOf "_law_answer" "_law_answer" (defArgs (topS 25)) (defBody (topS 25)) (defScope (topS 25)) .none kV13 dc13 pm13 an13 cd13 ct13), sl13⟩) (c13 : PySem.W.codeIn K cd13 "_law_answer" = true) (k13 : PySem.W.keepIn K (.ref f13) = true)
    {f14 : Addr} {od14 an14 : Option Addr} {sl14 : Array (Option Value)} {oc14 kV14 dc14 pm14 cd14 ct14 : Value}
    (a14 : PySem.W.nsIn K mainGlobals "_law_reckoned" = some (some (.ref f14))) (l14 : K.lookup f14 = some ⟨oc14, od14, .func (PySem.W.fnOf "_law_reckoned" "_law_reckoned" (defArgs (topS 26)) (defBody (topS 26)) (defScope (topS 26)) .none kV14 dc14 pm14 an14 cd14 ct14), sl14⟩) (c14 : PySem.W.codeIn K cd14 "_law_reckoned" = true) (k14 : PySem.W.keepIn K (.ref f14) = true)
    {f15 : Addr} {od15 an15 : Option Addr} {sl15 : Array (Option Value)} {oc15 kV15 dc15 pm15 cd15 ct15 : Value}
    (a15 : PySem.W.nsIn K mainGlobals "_law_clocks" = some (some (.ref f15))) (l15 : K.lookup f15 = some ⟨oc15, od15, .func (PySem.W.fnOf "_law_clocks" "_law_clocks" (defArgs (topS 27)) (defBody (topS 27)) (defScope (topS 27)) .none kV15 dc15 pm15 an15 cd15 ct15), sl15⟩) (c15 : PySem.W.codeIn K cd15 "_law_clocks" = true) (k15 : PySem.W.keepIn K (.ref f15) = true)
    {f16 : Addr} {od16 an16 : Option Addr} {sl16 : Array (Option Value)} {oc16 kV16 dc16 pm16 cd16 ct16 : Value}
    (a16 : PySem.W.nsIn K mainGlobals "_law_hand_right" = some (some (.ref f16))) (l16 : K.lookup f16 = some ⟨oc16, od16, .func (PySem.W.fnOf "_law_hand_right" "_law_hand_right" (defArgs (topS 28)) (defBody (topS 28)) (defScope (topS 28)) .none kV16 dc16 pm16 an16 cd16 ct16), sl16⟩) (c16 : PySem.W.codeIn K cd16 "_law_hand_right" = true) (k16 : PySem.W.keepIn K (.ref f16) = true)
    {f17 : Addr} {od17 an17 : Option Addr} {sl17 : Array (Option Value)} {oc17 kV17 dc17 pm17 cd17 ct17 : Value}
    (a17 : PySem.W.nsIn K mainGlobals "_law_forgotten" = some (some (.ref f17))) (l17 : K.lookup f17 = some ⟨oc17, od17, .func (PySem.W.fnOf "_law_forgotten" "_law_forgotten" (defArgs (topS 29)) (defBody (topS 29)) (defScope (topS 29)) .none kV17 dc17 pm17 an17 cd17 ct17), sl17⟩) (c17 : PySem.W.codeIn K cd17 "_law_forgotten" = true) (k17 : PySem.W.keepIn K (.ref f17) = true)
    {f18 : Addr} {od18 an18 : Option Addr} {sl18 : Array (Option Value)} {oc18 kV18 dc18 pm18 cd18 ct18 : Value}
    (a18 : PySem.W.nsIn K mainGlobals "law" = some (some (.ref f18))) (l18 : K.lookup f18 = some ⟨oc18, od18, .func (PySem.W.fnOf "law" "law" (defArgs (topS 30)) (defBody (topS 30)) (defScope (topS 30)) .none kV18 dc18 pm18 an18 cd18 ct18), sl18⟩) (c18 : PySem.W.codeIn K cd18 "law" = true) (k18 : PySem.W.keepIn K (.ref f18) = true)
    (hn0 : PySem.W.specialIn K (.builtin "object.__class__") "__get__" = some (some (.builtin "getset_descriptor.__get__")))
    (ht0 : PySem.W.takesIn K (.builtin "object.__class__") = some true)
    {C_LentError : Addr}
    (aC_LentError : PySem.W.nsIn K mainGlobals "LentError" = some (some (.ref C_LentError)))
    (ha_LentError : PySem.W.findIn K (.ref C_LentError) "__class__" = some (some (.builtin "object.__class__")))
    (hm_LentError : PySem.W.mroIn K C_LentError (.type "object") = some true)
    (hd_LentError : PySem.W.hasDictIn K C_LentError = true)
    (kc_LentError : PySem.W.keepIn K (.ref C_LentError) = true)
    (xx_LentError : PySem.W.excIn K C_LentError R.veB "ValueError.__new__" = true)
    (xb_LentError : PySem.W.subIn K (.ref C_LentError) (.type "BaseException") = some true)
    (xt_LentError : PySem.W.typeIn K (.ref C_LentError) = some (.type "type"))
    (xv_LentError : PySem.W.subIn K (.ref C_LentError) (.type "ValueError") = some true)
    (xg_LentError : PySem.W.findIn K (.ref C_LentError) "__getattribute__" = some (some (.builtin "BaseException.__getattribute__")))
    (xh_LentError : PySem.W.findIn K (.ref C_LentError) "__getattr__" = some none)
    {C_NoMoment : Addr}
    (aC_NoMoment : PySem.W.nsIn K mainGlobals "NoMoment" = some (some (.ref C_NoMoment)))
    (ha_NoMoment : PySem.W.findIn K (.ref C_NoMoment) "__class__" = some (some (.builtin "object.__class__")))
    (hm_NoMoment : PySem.W.mroIn K C_NoMoment (.type "object") = some true)
    (hd_NoMoment : PySem.W.hasDictIn K C_NoMoment = true)
    (kc_NoMoment : PySem.W.keepIn K (.ref C_NoMoment) = true)
    (xx_NoMoment : PySem.W.excIn K C_NoMoment R.veB "ValueError.__new__" = true)
    (xb_NoMoment : PySem.W.subIn K (.ref C_NoMoment) (.type "BaseException") = some true)
    (xt_NoMoment : PySem.W.typeIn K (.ref C_NoMoment) = some (.type "type"))
    (xv_NoMoment : PySem.W.subIn K (.ref C_NoMoment) (.type "ValueError") = some true)
    (xg_NoMoment : PySem.W.findIn K (.ref C_NoMoment) "__getattribute__" = some (some (.builtin "BaseException.__getattribute__")))
    (xh_NoMoment : PySem.W.findIn K (.ref C_NoMoment) "__getattr__" = some none)
    {C_NoHand : Addr}
    (aC_NoHand : PySem.W.nsIn K mainGlobals "NoHand" = some (some (.ref C_NoHand)))
    (ha_NoHand : PySem.W.findIn K (.ref C_NoHand) "__class__" = some (some (.builtin "object.__class__")))
    (hm_NoHand : PySem.W.mroIn K C_NoHand (.type "object") = some true)
    (hd_NoHand : PySem.W.hasDictIn K C_NoHand = true)
    (kc_NoHand : PySem.W.keepIn K (.ref C_NoHand) = true)
    (xx_NoHand : PySem.W.excIn K C_NoHand R.veB "ValueError.__new__" = true)
    (xb_NoHand : PySem.W.subIn K (.ref C_NoHand) (.type "BaseException") = some true)
    (xt_NoHand : PySem.W.typeIn K (.ref C_NoHand) = some (.type "type"))
    (xv_NoHand : PySem.W.subIn K (.ref C_NoHand) (.type "ValueError") = some true)
    (xg_NoHand : PySem.W.findIn K (.ref C_NoHand) "__getattribute__" = some (some (.builtin "BaseException.__getattribute__")))
    (xh_NoHand : PySem.W.findIn K (.ref C_NoHand) "__getattr__" = some none)
    {C_NoLoan : Addr}
    (aC_NoLoan : PySem.W.nsIn K mainGlobals "NoLoan" = some (some (.ref C_NoLoan)))
    (ha_NoLoan : PySem.W.findIn K (.ref C_NoLoan) "__class__" = some (some (.builtin "object.__class__")))
    (hm_NoLoan : PySem.W.mroIn K C_NoLoan (.type "object") = some true)
    (hd_NoLoan : PySem.W.hasDictIn K C_NoLoan = true)
    (kc_NoLoan : PySem.W.keepIn K (.ref C_NoLoan) = true)
    (xx_NoLoan : PySem.W.excIn K C_NoLoan R.veB "ValueError.__new__" = true)
    (xb_NoLoan : PySem.W.subIn K (.ref C_NoLoan) (.type "BaseException") = some true)
    (xt_NoLoan : PySem.W.typeIn K (.ref C_NoLoan) = some (.type "type"))
    (xv_NoLoan : PySem.W.subIn K (.ref C_NoLoan) (.type "ValueError") = some true)
    (xg_NoLoan : PySem.W.findIn K (.ref C_NoLoan) "__getattribute__" = some (some (.builtin "BaseException.__getattribute__")))
    (xh_NoLoan : PySem.W.findIn K (.ref C_NoLoan) "__getattr__" = some none)
    {C_NoApart : Addr}
    (aC_NoApart : PySem.W.nsIn K mainGlobals "NoApart" = some (some (.ref C_NoApart)))
    (ha_NoApart : PySem.W.findIn K (.ref C_NoApart) "__class__" = some (some (.builtin "object.__class__")))
    (hm_NoApart : PySem.W.mroIn K C_NoApart (.type "object") = some true)
    (hd_NoApart : PySem.W.hasDictIn K C_NoApart = true)
    (kc_NoApart : PySem.W.keepIn K (.ref C_NoApart) = true)
    (xx_NoApart : PySem.W.excIn K C_NoApart R.veB "ValueError.__new__" = true)
    (xb_NoApart : PySem.W.subIn K (.ref C_NoApart) (.type "BaseException") = some true)
    (xt_NoApart : PySem.W.typeIn K (.ref C_NoApart) = some (.type "type"))
    (xv_NoApart : PySem.W.subIn K (.ref C_NoApart) (.type "ValueError") = some true)
    (xg_NoApart : PySem.W.findIn K (.ref C_NoApart) "__getattribute__" = some (some (.builtin "BaseException.__getattribute__")))
    (xh_NoApart : PySem.W.findIn K (.ref C_NoApart) "__getattr__" = some none)
    {C_Hand : Addr}
    (aC_Hand : PySem.W.nsIn K mainGlobals "Hand" = some (some (.ref C_Hand)))
    (ha_Hand : PySem.W.findIn K (.ref C_Hand) "__class__" = some (some (.builtin "object.__class__")))
    (hm_Hand : PySem.W.mroIn K C_Hand (.type "object") = some true)
    (hd_Hand : PySem.W.hasDictIn K C_Hand = true)
    (kc_Hand : PySem.W.keepIn K (.ref C_Hand) = true)
    (pg_Hand : PySem.W.plainGet K C_Hand Str.empty = true)
    (po_Hand : PySem.W.plainOver K C_Hand = true)
    (sa_Hand : PySem.W.findIn K (.ref C_Hand) "__setattr__" = some (some (.builtin "object.__setattr__")))
    (mk_Hand : PySem.W.makesIn K C_Hand = true)
    {fIHand : Addr} {odIHand anIHand : Option Addr} {slIHand : Array (Option Value)} {ocIHand kVIHand dcIHand pmIHand cdIHand ctIHand : Value}
    (aIHand : PySem.W.findIn K (.ref C_Hand) "__init__" = some (some (.ref fIHand)))
    (iIHand : PySem.W.isFn K (.ref fIHand) = true)
    (lIHand : K.lookup fIHand = some ⟨ocIHand, odIHand, .func (PySem.W.fnOf "__init__" "Hand.__init__" (defArgs (inClass (topS 15) 0)) (defBody (inClass (topS 15) 0)) (defScope (inClass (topS 15) 0)) .none kVIHand dcIHand pmIHand anIHand cdIHand ctIHand), slIHand⟩)
    (cIHand : PySem.W.codeIn K cdIHand "Hand.__init__" = true)
    (kIHand : PySem.W.keepIn K (.ref fIHand) = true)
    {fMHand_hears : Addr} {odMHand_hears anMHand_hears : Option Addr} {slMHand_hears : Array (Option Value)} {ocMHand_hears kVMHand_hears dcMHand_hears pmMHand_hears cdMHand_hears ctMHand_hears : Value}
    (aMHand_hears : PySem.W.findIn K (.ref C_Hand) "hears" = some (some (.ref fMHand_hears)))
    (iMHand_hears : PySem.W.isFn K (.ref fMHand_hears) = true)
    (lMHand_hears : K.lookup fMHand_hears = some ⟨ocMHand_hears, odMHand_hears, .func (PySem.W.fnOf "hears" "Hand.hears" (defArgs (inClass (topS 15) 1)) (defBody (inClass (topS 15) 1)) (defScope (inClass (topS 15) 1)) .none kVMHand_hears dcMHand_hears pmMHand_hears anMHand_hears cdMHand_hears ctMHand_hears), slMHand_hears⟩)
    (cMHand_hears : PySem.W.codeIn K cdMHand_hears "Hand.hears" = true)
    (kMHand_hears : PySem.W.keepIn K (.ref fMHand_hears) = true)
    {fMHand_end_of : Addr} {odMHand_end_of anMHand_end_of : Option Addr} {slMHand_end_of : Array (Option Value)} {ocMHand_end_of kVMHand_end_of dcMHand_end_of pmMHand_end_of cdMHand_end_of ctMHand_end_of : Value}
    (aMHand_end_of : PySem.W.findIn K (.ref C_Hand) "end_of" = some (some (.ref fMHand_end_of)))
    (iMHand_end_of : PySem.W.isFn K (.ref fMHand_end_of) = true)
    (lMHand_end_of : K.lookup fMHand_end_of = some ⟨ocMHand_end_of, odMHand_end_of, .func (PySem.W.fnOf "end_of" "Hand.end_of" (defArgs (inClass (topS 15) 2)) (defBody (inClass (topS 15) 2)) (defScope (inClass (topS 15) 2)) .none kVMHand_end_of dcMHand_end_of pmMHand_end_of anMHand_end_of cdMHand_end_of ctMHand_end_of), slMHand_end_of⟩)
    (cMHand_end_of : PySem.W.codeIn K cdMHand_end_of "Hand.end_of" = true)
    (kMHand_end_of : PySem.W.keepIn K (.ref fMHand_end_of) = true)
    {fMHand_forgets : Addr} {odMHand_forgets anMHand_forgets : Option Addr} {slMHand_forgets : Array (Option Value)} {ocMHand_forgets kVMHand_forgets dcMHand_forgets pmMHand_forgets cdMHand_forgets ctMHand_forgets : Value}
    (aMHand_forgets : PySem.W.findIn K (.ref C_Hand) "forgets" = some (some (.ref fMHand_forgets)))
    (iMHand_forgets : PySem.W.isFn K (.ref fMHand_forgets) = true)
    (lMHand_forgets : K.lookup fMHand_forgets = some ⟨ocMHand_forgets, odMHand_forgets, .func (PySem.W.fnOf "forgets" "Hand.forgets" (defArgs (inClass (topS 15) 3)) (defBody (inClass (topS 15) 3)) (defScope (inClass (topS 15) 3)) .none kVMHand_forgets dcMHand_forgets pmMHand_forgets anMHand_forgets cdMHand_forgets ctMHand_forgets), slMHand_forgets⟩)
    (cMHand_forgets : PySem.W.codeIn K cdMHand_forgets "Hand.forgets" = true)
    (kMHand_forgets : PySem.W.keepIn K (.ref fMHand_forgets) = true)
    {fMHand_surely_out : Addr} {odMHand_surely_out anMHand_surely_out : Option Addr} {slMHand_surely_out : Array (Option Value)} {ocMHand_surely_out kVMHand_surely_out dcMHand_surely_out pmMHand_surely_out cdMHand_surely_out ctMHand_surely_out : Value}
    (aMHand_surely_out : PySem.W.findIn K (.ref C_Hand) "surely_out" = some (some (.ref fMHand_surely_out)))
    (iMHand_surely_out : PySem.W.isFn K (.ref fMHand_surely_out) = true)
    (lMHand_surely_out : K.lookup fMHand_surely_out = some ⟨ocMHand_surely_out, odMHand_surely_out, .func (PySem.W.fnOf "surely_out" "Hand.surely_out" (defArgs (inClass (topS 15) 4)) (defBody (inClass (topS 15) 4)) (defScope (inClass (topS 15) 4)) .none kVMHand_surely_out dcMHand_surely_out pmMHand_surely_out anMHand_surely_out cdMHand_surely_out ctMHand_surely_out), slMHand_surely_out⟩)
    (cMHand_surely_out : PySem.W.codeIn K cdMHand_surely_out "Hand.surely_out" = true)
    (kMHand_surely_out : PySem.W.keepIn K (.ref fMHand_surely_out) = true)
    {fMHand_surely_over : Addr} {odMHand_surely_over anMHand_surely_over : Option Addr} {slMHand_surely_over : Array (Option Value)} {ocMHand_surely_over kVMHand_surely_over dcMHand_surely_over pmMHand_surely_over cdMHand_surely_over ctMHand_surely_over : Value}
    (aMHand_surely_over : PySem.W.findIn K (.ref C_Hand) "surely_over" = some (some (.ref fMHand_surely_over)))
    (iMHand_surely_over : PySem.W.isFn K (.ref fMHand_surely_over) = true)
    (lMHand_surely_over : K.lookup fMHand_surely_over = some ⟨ocMHand_surely_over, odMHand_surely_over, .func (PySem.W.fnOf "surely_over" "Hand.surely_over" (defArgs (inClass (topS 15) 5)) (defBody (inClass (topS 15) 5)) (defScope (inClass (topS 15) 5)) .none kVMHand_surely_over dcMHand_surely_over pmMHand_surely_over anMHand_surely_over cdMHand_surely_over ctMHand_surely_over), slMHand_surely_over⟩)
    (cMHand_surely_over : PySem.W.codeIn K cdMHand_surely_over "Hand.surely_over" = true)
    (kMHand_surely_over : PySem.W.keepIn K (.ref fMHand_surely_over) = true)
    {fMHand_left : Addr} {odMHand_left anMHand_left : Option Addr} {slMHand_left : Array (Option Value)} {ocMHand_left kVMHand_left dcMHand_left pmMHand_left cdMHand_left ctMHand_left : Value}
    (aMHand_left : PySem.W.findIn K (.ref C_Hand) "left" = some (some (.ref fMHand_left)))
    (iMHand_left : PySem.W.isFn K (.ref fMHand_left) = true)
    (lMHand_left : K.lookup fMHand_left = some ⟨ocMHand_left, odMHand_left, .func (PySem.W.fnOf "left" "Hand.left" (defArgs (inClass (topS 15) 6)) (defBody (inClass (topS 15) 6)) (defScope (inClass (topS 15) 6)) .none kVMHand_left dcMHand_left pmMHand_left anMHand_left cdMHand_left ctMHand_left), slMHand_left⟩)
    (cMHand_left : PySem.W.codeIn K cdMHand_left "Hand.left" = true)
    (kMHand_left : PySem.W.keepIn K (.ref fMHand_left) = true)
    {fMHand_tells : Addr} {odMHand_tells anMHand_tells : Option Addr} {slMHand_tells : Array (Option Value)} {ocMHand_tells kVMHand_tells dcMHand_tells pmMHand_tells cdMHand_tells ctMHand_tells : Value}
    (aMHand_tells : PySem.W.findIn K (.ref C_Hand) "tells" = some (some (.ref fMHand_tells)))
    (iMHand_tells : PySem.W.isFn K (.ref fMHand_tells) = true)
    (lMHand_tells : K.lookup fMHand_tells = some ⟨ocMHand_tells, odMHand_tells, .func (PySem.W.fnOf "tells" "Hand.tells" (defArgs (inClass (topS 15) 7)) (defBody (inClass (topS 15) 7)) (defScope (inClass (topS 15) 7)) .none kVMHand_tells dcMHand_tells pmMHand_tells anMHand_tells cdMHand_tells ctMHand_tells), slMHand_tells⟩)
    (cMHand_tells : PySem.W.codeIn K cdMHand_tells "Hand.tells" = true)
    (kMHand_tells : PySem.W.keepIn K (.ref fMHand_tells) = true)
    {fMHand_soonest : Addr} {odMHand_soonest anMHand_soonest : Option Addr} {slMHand_soonest : Array (Option Value)} {ocMHand_soonest kVMHand_soonest dcMHand_soonest pmMHand_soonest cdMHand_soonest ctMHand_soonest : Value}
    (aMHand_soonest : PySem.W.findIn K (.ref C_Hand) "soonest" = some (some (.ref fMHand_soonest)))
    (iMHand_soonest : PySem.W.isFn K (.ref fMHand_soonest) = true)
    (lMHand_soonest : K.lookup fMHand_soonest = some ⟨ocMHand_soonest, odMHand_soonest, .func (PySem.W.fnOf "soonest" "Hand.soonest" (defArgs (inClass (topS 15) 8)) (defBody (inClass (topS 15) 8)) (defScope (inClass (topS 15) 8)) .none kVMHand_soonest dcMHand_soonest pmMHand_soonest anMHand_soonest cdMHand_soonest ctMHand_soonest), slMHand_soonest⟩)
    (cMHand_soonest : PySem.W.codeIn K cdMHand_soonest "Hand.soonest" = true)
    (kMHand_soonest : PySem.W.keepIn K (.ref fMHand_soonest) = true)
    (n_Hand_name : PySem.W.findIn K (.ref C_Hand) "name" = some none)
    (n_Hand_apart : PySem.W.findIn K (.ref C_Hand) "apart" = some none)
    (n_Hand_kept : PySem.W.findIn K (.ref C_Hand) "kept" = some none)
    (u_NoLoan_LentError : PySem.W.subIn K (.ref C_NoLoan) (.ref C_LentError) = some true)
    (u_NoLoan_NoLoan : PySem.W.subIn K (.ref C_NoLoan) (.ref C_NoLoan) = some true)
    (u_NoLoan_NoMoment : PySem.W.subIn K (.ref C_NoLoan) (.ref C_NoMoment) = some false)
    (z_all : PySem.W.nsIn K mainGlobals "all" = some none)
    (z_isinstance : PySem.W.nsIn K mainGlobals "isinstance" = some none)
    (z_str : PySem.W.nsIn K mainGlobals "str" = some none)
    (z_len : PySem.W.nsIn K mainGlobals "len" = some none)
    (z_int : PySem.W.nsIn K mainGlobals "int" = some none)
    (z_bool : PySem.W.nsIn K mainGlobals "bool" = some none)
    (z_max : PySem.W.nsIn K mainGlobals "max" = some none)
    (z_sorted : PySem.W.nsIn K mainGlobals "sorted" = some none)
    (z_range : PySem.W.nsIn K mainGlobals "range" = some none)
    (z_min : PySem.W.nsIn K mainGlobals "min" = some none)
    {tk_MOST_LETTERS : Tok} (c_MOST_LETTERS : PySem.W.nsIn K mainGlobals "MOST_LETTERS" = some (some (.int 8 tk_MOST_LETTERS)))
    {tk_LETTERS : Tok} (c_LETTERS : PySem.W.nsIn K mainGlobals "LETTERS" = some (some (.str "abcdefghijklmnopqrstuvwxyz" tk_LETTERS)))
    {tk_MOST_APART : Tok} (c_MOST_APART : PySem.W.nsIn K mainGlobals "MOST_APART" = some (some (.int 1000000 tk_MOST_APART))) :
    ∃ fd : FuncData, (∀ (s : Shared) (v : Value), BindsTo s fd ⟨[v], []⟩ [("_law_script", v)]) ∧ ∀ base : Heap, K.In base → base.Ns mainGlobals mg → FnOk l.prog w K mg base CX0 7 fa fd ["_law_script"] (sp_law K) := by
  have e := hfa.symm.trans (PySem.W.mg_of X G a18)
  cases e
  have T : Txt K mg ⟨C_LentError, C_NoMoment, C_NoHand, C_NoLoan, C_NoApart, C_Hand⟩ := { x_LentError := ⟨PySem.W.mg_of X G aC_LentError, xx_LentError, kc_LentError, xb_LentError, xt_LentError, hd_LentError, xv_LentError, ⟨xg_LentError, xh_LentError, xb_LentError, hd_LentError, ha_LentError, hn0, ht0, hm_LentError⟩⟩, x_NoMoment := ⟨PySem.W.mg_of X G aC_NoMoment, xx_NoMoment, kc_NoMoment, xb_NoMoment, xt_NoMoment, hd_NoMoment, xv_NoMoment, ⟨xg_NoMoment, xh_NoMoment, xb_NoMoment, hd_NoMoment, ha_NoMoment, hn0, ht0, hm_NoMoment⟩⟩, x_NoHand := ⟨PySem.W.mg_of X G aC_NoHand, xx_NoHand, kc_NoHand, xb_NoHand, xt_NoHand, hd_NoHand, xv_NoHand, ⟨xg_NoHand, xh_NoHand, xb_NoHand, hd_NoHand, ha_NoHand, hn0, ht0, hm_NoHand⟩⟩, x_NoLoan := ⟨PySem.W.mg_of X G aC_NoLoan, xx_NoLoan, kc_NoLoan, xb_NoLoan, xt_NoLoan, hd_NoLoan, xv_NoLoan, ⟨xg_NoLoan, xh_NoLoan, xb_NoLoan, hd_NoLoan, ha_NoLoan, hn0, ht0, hm_NoLoan⟩⟩, x_NoApart := ⟨PySem.W.mg_of X G aC_NoApart, xx_NoApart, kc_NoApart, xb_NoApart, xt_NoApart, hd_NoApart, xv_NoApart, ⟨xg_NoApart, xh_NoApart, xb_NoApart, hd_NoApart, ha_NoApart, hn0, ht0, hm_NoApart⟩⟩, o_Hand := ⟨PySem.W.mg_of X G aC_Hand, ⟨pg_Hand, hd_Hand, po_Hand, sa_Hand⟩, ha_Hand, hn0, ht0, hm_Hand⟩, i_Hand := ⟨PySem.W.mg_of X G aC_Hand, _, _, ⟨mk_Hand, aIHand, iIHand, kc_Hand⟩, fun_mk (st := inClass (topS 15) 0) lIHand cIHand kIHand, (fun_mk (st := inClass (topS 15) 0) lIHand cIHand kIHand).binds (ps := ["self", "name", "apart"]) fun _ _ _ _ _ _ us hl => match us, hl with | [_, _, _], _ => rfl⟩, m_Hand_hears := ⟨_, _, ⟨aMHand_hears, iMHand_hears, kMHand_hears⟩, fun_mk (st := inClass (topS 15) 1) lMHand_hears cMHand_hears kMHand_hears, (fun_mk (st := inClass (topS 15) 1) lMHand_hears cMHand_hears kMHand_hears).binds (ps := ["self", "loan", "end"]) fun _ _ _ _ _ _ us hl => match us, hl with | [_, _, _], _ => rfl⟩, m_Hand_end_of := ⟨_, _, ⟨aMHand_end_of, iMHand_end_of, kMHand_end_of⟩, fun_mk (st := inClass (topS 15) 2) lMHand_end_of cMHand_end_of kMHand_end_of, (fun_mk (st := inClass (topS 15) 2) lMHand_end_of cMHand_end_of kMHand_end_of).binds (ps := ["self", "loan"]) fun _ _ _ _ _ _ us hl => match us, hl with | [_, _], _ => rfl⟩, m_Hand_forgets := ⟨_, _, ⟨aMHand_forgets, iMHand_forgets, kMHand_forgets⟩, fun_mk (st := inClass (topS 15) 3) lMHand_forgets cMHand_forgets kMHand_forgets, (fun_mk (st := inClass (topS 15) 3) lMHand_forgets cMHand_forgets kMHand_forgets).binds (ps := ["self", "loan"]) fun _ _ _ _ _ _ us hl => match us, hl with | [_, _], _ => rfl⟩, m_Hand_surely_out := ⟨_, _, ⟨aMHand_surely_out, iMHand_surely_out, kMHand_surely_out⟩, fun_mk (st := inClass (topS 15) 4) lMHand_surely_out cMHand_surely_out kMHand_surely_out, (fun_mk (st := inClass (topS 15) 4) lMHand_surely_out cMHand_surely_out kMHand_surely_out).binds (ps := ["self", "clock", "loan"]) fun _ _ _ _ _ _ us hl => match us, hl with | [_, _, _], _ => rfl⟩, m_Hand_surely_over := ⟨_, _, ⟨aMHand_surely_over, iMHand_surely_over, kMHand_surely_over⟩, fun_mk (st := inClass (topS 15) 5) lMHand_surely_over cMHand_surely_over kMHand_surely_over, (fun_mk (st := inClass (topS 15) 5) lMHand_surely_over cMHand_surely_over kMHand_surely_over).binds (ps := ["self", "clock", "loan"]) fun _ _ _ _ _ _ us hl => match us, hl with | [_, _, _], _ => rfl⟩, m_Hand_left := ⟨_, _, ⟨aMHand_left, iMHand_left, kMHand_left⟩, fun_mk (st := inClass (topS 15) 6) lMHand_left cMHand_left kMHand_left, (fun_mk (st := inClass (topS 15) 6) lMHand_left cMHand_left kMHand_left).binds (ps := ["self", "clock", "loan"]) fun _ _ _ _ _ _ us hl => match us, hl with | [_, _, _], _ => rfl⟩, m_Hand_tells := ⟨_, _, ⟨aMHand_tells, iMHand_tells, kMHand_tells⟩, fun_mk (st := inClass (topS 15) 7) lMHand_tells cMHand_tells kMHand_tells, (fun_mk (st := inClass (topS 15) 7) lMHand_tells cMHand_tells kMHand_tells).binds (ps := ["self", "clock"]) fun _ _ _ _ _ _ us hl => match us, hl with | [_, _], _ => rfl⟩, m_Hand_soonest := ⟨_, _, ⟨aMHand_soonest, iMHand_soonest, kMHand_soonest⟩, fun_mk (st := inClass (topS 15) 8) lMHand_soonest cMHand_soonest kMHand_soonest, (fun_mk (st := inClass (topS 15) 8) lMHand_soonest cMHand_soonest kMHand_soonest).binds (ps := ["self"]) fun _ _ _ _ _ _ us hl => match us, hl with | [_], _ => rfl⟩, n_Hand_name := n_Hand_name, n_Hand_apart := n_Hand_apart, n_Hand_kept := n_Hand_kept, u_NoLoan_LentError := u_NoLoan_LentError, u_NoLoan_NoLoan := u_NoLoan_NoLoan, u_NoLoan_NoMoment := u_NoLoan_NoMoment, m_all := PySem.W.mg_none_of X G z_all, m_isinstance := PySem.W.mg_none_of X G z_isinstance, m_str := PySem.W.mg_none_of X G z_str, m_len := PySem.W.mg_none_of X G z_len, m_int := PySem.W.mg_none_of X G z_int, m_bool := PySem.W.mg_none_of X G z_bool, m_max := PySem.W.mg_none_of X G z_max, m_sorted := PySem.W.mg_none_of X G z_sorted, m_range := PySem.W.mg_none_of X G z_range, m_min := PySem.W.mg_none_of X G z_min, g_MOST_LETTERS := ⟨_, PySem.W.mg_of X G c_MOST_LETTERS, ⟨_, rfl⟩⟩, g_LETTERS := ⟨_, PySem.W.mg_of X G c_LETTERS, ⟨_, rfl⟩⟩, g_MOST_APART := ⟨_, PySem.W.mg_of X G c_MOST_APART, ⟨_, rfl⟩⟩, f_is_name := ⟨_, _, PySem.W.mg_of X G a1, fun_mk (st := topS 9) l1 c1 k1, (fun_mk (st := topS 9) l1 c1 k1).binds (ps := ["thing"]) fun _ _ _ _ _ _ us hl => match us, hl with | [_], _ => rfl⟩, f_is_whole := ⟨_, _, PySem.W.mg_of X G a2, fun_mk (st := topS 10) l2 c2 k2, (fun_mk (st := topS 10) l2 c2 k2).binds (ps := ["thing", "low", "high"]) fun _ _ _ _ _ _ us hl => match us, hl with | [_, _, _], _ => rfl⟩, f_is_count := ⟨_, _, PySem.W.mg_of X G a3, fun_mk (st := topS 11) l3 c3 k3, (fun_mk (st := topS 11) l3 c3 k3).binds (ps := ["thing"]) fun _ _ _ _ _ _ us hl => match us, hl with | [_], _ => rfl⟩, f_sure_clock := ⟨_, _, PySem.W.mg_of X G a4, fun_mk (st := topS 14) l4 c4 k4, (fun_mk (st := topS 14) l4 c4 k4).binds (ps := ["clock"]) fun _ _ _ _ _ _ us hl => match us, hl with | [_], _ => rfl⟩, f__law_cell_at := ⟨_, _, PySem.W.mg_of X G a5, fun_mk (st := topS 17) l5 c5 k5, (fun_mk (st := topS 17) l5 c5 k5).binds (ps := ["_law_script", "_law_k"]) fun _ _ _ _ _ _ us hl => match us, hl with | [_, _], _ => rfl⟩, f__law_state := ⟨_, _, PySem.W.mg_of X G a6, fun_mk (st := topS 18) l6 c6 k6, (fun_mk (st := topS 18) l6 c6 k6).binds (ps := ["_law_cell", "_law_k"]) fun _ _ _ _ _ _ us hl => match us, hl with | [_, _], _ => rfl⟩, f__law_mixed := ⟨_, _, PySem.W.mg_of X G a7, fun_mk (st := topS 19) l7 c7 k7, (fun_mk (st := topS 19) l7 c7 k7).binds (ps := ["_law_number"]) fun _ _ _ _ _ _ us hl => match us, hl with | [_], _ => rfl⟩, f__law_digit := ⟨_, _, PySem.W.mg_of X G a8, fun_mk (st := topS 20) l8 c8 k8, (fun_mk (st := topS 20) l8 c8 k8).binds (ps := ["_law_state_here", "_law_base"]) fun _ _ _ _ _ _ us hl => match us, hl with | [_, _], _ => rfl⟩, f__law_name := ⟨_, _, PySem.W.mg_of X G a9, fun_mk (st := topS 21) l9 c9 k9, (fun_mk (st := topS 21) l9 c9 k9).binds (ps := ["_law_state_here"]) fun _ _ _ _ _ _ us hl => match us, hl with | [_], _ => rfl⟩, f__law_apart := ⟨_, _, PySem.W.mg_of X G a10, fun_mk (st := topS 22) l10 c10 k10, (fun_mk (st := topS 22) l10 c10 k10).binds (ps := ["_law_state_here"]) fun _ _ _ _ _ _ us hl => match us, hl with | [_], _ => rfl⟩, f__law_end := ⟨_, _, PySem.W.mg_of X G a11, fun_mk (st := topS 23) l11 c11 k11, (fun_mk (st := topS 23) l11 c11 k11).binds (ps := ["_law_state_here", "_law_base"]) fun _ _ _ _ _ _ us hl => match us, hl with | [_, _], _ => rfl⟩, f__law_loans := ⟨_, _, PySem.W.mg_of X G a12, fun_mk (st := topS 24) l12 c12 k12, (fun_mk (st := topS 24) l12 c12 k12).binds (ps := ["_law_state_here"]) fun _ _ _ _ _ _ us hl => match us, hl with | [_], _ => rfl⟩, f__law_answer := ⟨_, _, PySem.W.mg_of X G a13, fun_mk (st := topS 25) l13 c13 k13, (fun_mk (st := topS 25) l13 c13 k13).binds (ps := ["_law_hand", "_law_word", "_law_clock", "_law_loan"]) fun _ _ _ _ _ _ us hl => match us, hl with | [_, _, _, _], _ => rfl⟩, f__law_reckoned := ⟨_, _, PySem.W.mg_of X G a14, fun_mk (st := topS 26) l14 c14 k14, (fun_mk (st := topS 26) l14 c14 k14).binds (ps := ["_law_kept", "_law_apart_here", "_law_word", "_law_clock", "_law_loan"]) fun _ _ _ _ _ _ us hl => match us, hl with | [_, _, _, _, _], _ => rfl⟩, f__law_clocks := ⟨_, _, PySem.W.mg_of X G a15, fun_mk (st := topS 27) l15 c15 k15, (fun_mk (st := topS 27) l15 c15 k15).binds (ps := ["_law_state_here", "_law_kept", "_law_apart_here", "_law_base"]) fun _ _ _ _ _ _ us hl => match us, hl with | [_, _, _, _], _ => rfl⟩, f__law_hand_right := ⟨_, _, PySem.W.mg_of X G a16, fun_mk (st := topS 28) l16 c16 k16, (fun_mk (st := topS 28) l16 c16 k16).binds (ps := ["_law_state_here", "_law_hand", "_law_kept", "_law_apart_here", "_law_loans_here", "_law_base"]) fun _ _ _ _ _ _ us hl => match us, hl with | [_, _, _, _, _, _], _ => rfl⟩, f__law_forgotten := ⟨_, _, PySem.W.mg_of X G a17, fun_mk (st := topS 29) l17 c17 k17, (fun_mk (st := topS 29) l17 c17 k17).binds (ps := ["_law_hand", "_law_kept", "_law_loan"]) fun _ _ _ _ _ _ us hl => match us, hl with | [_, _, _], _ => rfl⟩ }
  exact ⟨PySem.W.fnOf "law" "law" (defArgs s_law) (defBody s_law) (defScope s_law) .none kV18 dc18 pm18 an18 cd18 ct18, fun s v => .of_eq rfl, fun base _ _ => ok_law (fun_mk (st := s_law) l18 c18 k18) T⟩
end W
open PySem PySem.W PyProof.Rows
set_option maxRecDepth 100000 in
set_option maxHeartbeats 0 in
theorem PySem.Challenge.cw_rowlent_k41_what_a_hand_keeps_holds : PySem.Challenge.rw_rowlent_k41_what_a_hand_keeps.Holds := by
  w_on; o_law; k_head; (case hw => w_witness2)
  k_fill
  refine L2.walk_ofK (l := PySem.Challenge.rw_rowlent_k41_what_a_hand_keeps) (n := 63) (k := 7) (x := "_law_script") (CX := L2.CX0) (sp := W.sp_law) rfl (by decide) rfl ⟨rfl, by decide, by decide⟩ (fun w h Y => by first | exact PySem.W.kIn_of Y | exact PySem.W.km_in_of Y) ?F (fun _ _ a ns hl hO hS => ⟨ns, ⟨a, rfl, hS, hl⟩, R.wf_only hO, fun _ => rfl⟩) (fun _ _ _ _ h => h)
  case F =>
    intro w mg fa h KX G hmg
    refine' W.all_mk KX G hmg ?a1 ?l1 ?c1 ?k1 ?a2 ?l2 ?c2 ?k2 ?a3 ?l3 ?c3 ?k3 ?a4 ?l4 ?c4 ?k4 ?a5 ?l5 ?c5 ?k5 ?a6 ?l6 ?c6 ?k6 ?a7 ?l7 ?c7 ?k7 ?a8 ?l8 ?c8 ?k8 ?a9 ?l9 ?c9 ?k9 ?a10 ?l10 ?c10 ?k10 ?a11 ?l11 ?c11 ?k11 ?a12 ?l12 ?c12 ?k12 ?a13 ?l13 ?c13 ?k13 ?a14 ?l14 ?c14 ?k14 ?a15 ?l15 ?c15 ?k15 ?a16 ?l16 ?c16 ?k16 ?a17 ?l17 ?c17 ?k17 ?a18 ?l18 ?c18 ?k18 ?hn0 ?ht0 ?aC_LentError ?ha_LentError ?hm_LentError ?hd_LentError ?kc_LentError ?xx_LentError ?xb_LentError ?xt_LentError ?xv_LentError ?xg_LentError ?xh_LentError ?aC_NoMoment ?ha_NoMoment ?hm_NoMoment ?hd_NoMoment ?kc_NoMoment ?xx_NoMoment ?xb_NoMoment ?xt_NoMoment ?xv_NoMoment ?xg_NoMoment ?xh_NoMoment ?aC_NoHand ?ha_NoHand ?hm_NoHand ?hd_NoHand ?kc_NoHand ?xx_NoHand ?xb_NoHand ?xt_NoHand ?xv_NoHand ?xg_NoHand ?xh_NoHand ?aC_NoLoan ?ha_NoLoan ?hm_NoLoan ?hd_NoLoan ?kc_NoLoan ?xx_NoLoan ?xb_NoLoan ?xt_NoLoan ?xv_NoLoan ?xg_NoLoan ?xh_NoLoan ?aC_NoApart ?ha_NoApart ?hm_NoApart ?hd_NoApart ?kc_NoApart ?xx_NoApart ?xb_NoApart ?xt_NoApart ?xv_NoApart ?xg_NoApart ?xh_NoApart ?aC_Hand ?ha_Hand ?hm_Hand ?hd_Hand ?kc_Hand ?pg_Hand ?po_Hand ?sa_Hand ?mk_Hand ?aIHand ?iIHand ?lIHand ?cIHand ?kIHand ?aMHand_hears ?iMHand_hears ?lMHand_hears ?cMHand_hears ?kMHand_hears ?aMHand_end_of ?iMHand_end_of ?lMHand_end_of ?cMHand_end_of ?kMHand_end_of ?aMHand_forgets ?iMHand_forgets ?lMHand_forgets ?cMHand_forgets ?kMHand_forgets ?aMHand_surely_out ?iMHand_surely_out ?lMHand_surely_out ?cMHand_surely_out ?kMHand_surely_out ?aMHand_surely_over ?iMHand_surely_over ?lMHand_surely_over ?cMHand_surely_over ?kMHand_surely_over ?aMHand_left ?iMHand_left ?lMHand_left ?cMHand_left ?kMHand_left ?aMHand_tells ?iMHand_tells ?lMHand_tells ?cMHand_tells ?kMHand_tells ?aMHand_soonest ?iMHand_soonest ?lMHand_soonest ?cMHand_soonest ?kMHand_soonest ?n_Hand_name ?n_Hand_apart ?n_Hand_kept ?u_NoLoan_LentError ?u_NoLoan_NoLoan ?u_NoLoan_NoMoment ?z_all ?z_isinstance ?z_str ?z_len ?z_int ?z_bool ?z_max ?z_sorted ?z_range ?z_min ?c_MOST_LETTERS ?c_LETTERS ?c_MOST_APART
    (case a1 => k_is)
    (case l1 => k_is)
    (case c1 => k_is)
    (case k1 => k_is)
    (case a2 => k_is)
    (case l2 => k_is)
    (case c2 => k_is)
    (case k2 => k_is)
    (case a3 => k_is)
    (case l3 => k_is)
    (case c3 => k_is)
    (case k3 => k_is)
    (case a4 => k_is)
    (case l4 => k_is)
    (case c4 => k_is)
    (case k4 => k_is)
    (case a5 => k_is)
    (case l5 => k_is)
    (case c5 => k_is)
    (case k5 => k_is)
    (case a6 => k_is)
    (case l6 => k_is)
    (case c6 => k_is)
    (case k6 => k_is)
    (case a7 => k_is)
    (case l7 => k_is)
    (case c7 => k_is)
    (case k7 => k_is)
    (case a8 => k_is)
    (case l8 => k_is)
    (case c8 => k_is)
    (case k8 => k_is)
    (case a9 => k_is)
    (case l9 => k_is)
    (case c9 => k_is)
    (case k9 => k_is)
    (case a10 => k_is)
    (case l10 => k_is)
    (case c10 => k_is)
    (case k10 => k_is)
    (case a11 => k_is)
    (case l11 => k_is)
    (case c11 => k_is)
    (case k11 => k_is)
    (case a12 => k_is)
    (case l12 => k_is)
    (case c12 => k_is)
    (case k12 => k_is)
    (case a13 => k_is)
    (case l13 => k_is)
    (case c13 => k_is)
    (case k13 => k_is)
    (case a14 => k_is)
    (case l14 => k_is)
    (case c14 => k_is)
    (case k14 => k_is)
    (case a15 => k_is)
    (case l15 => k_is)
    (case c15 => k_is)
    (case k15 => k_is)
    (case a16 => k_is)
    (case l16 => k_is)
    (case c16 => k_is)
    (case k16 => k_is)
    (case a17 => k_is)
    (case l17 => k_is)
    (case c17 => k_is)
    (case k17 => k_is)
    (case a18 => k_is)
    (case l18 => k_is)
    (case c18 => k_is)
    (case k18 => k_is)
    (case hn0 => k_is)
    (case ht0 => k_is)
    (case aC_LentError => k_is)
    (case ha_LentError => k_is)
    (case hm_LentError => k_is)
    (case hd_LentError => k_is)
    (case kc_LentError => k_is)
    (case xx_LentError => k_exc)
    (case xb_LentError => k_is)
    (case xt_LentError => k_is)
    (case xv_LentError => k_is)
    (case xg_LentError => k_is)
    (case xh_LentError => k_is)
    (case aC_NoMoment => k_is)
    (case ha_NoMoment => k_is)
    (case hm_NoMoment => k_is)
    (case hd_NoMoment => k_is)
    (case kc_NoMoment => k_is)
    (case xx_NoMoment => k_exc)
    (case xb_NoMoment => k_is)
    (case xt_NoMoment => k_is)
    (case xv_NoMoment => k_is)
    (case xg_NoMoment => k_is)
    (case xh_NoMoment => k_is)
    (case aC_NoHand => k_is)
    (case ha_NoHand => k_is)
    (case hm_NoHand => k_is)
    (case hd_NoHand => k_is)
    (case kc_NoHand => k_is)
    (case xx_NoHand => k_exc)
    (case xb_NoHand => k_is)
    (case xt_NoHand => k_is)
    (case xv_NoHand => k_is)
    (case xg_NoHand => k_is)
    (case xh_NoHand => k_is)
    (case aC_NoLoan => k_is)
    (case ha_NoLoan => k_is)
    (case hm_NoLoan => k_is)
    (case hd_NoLoan => k_is)
    (case kc_NoLoan => k_is)
    (case xx_NoLoan => k_exc)
    (case xb_NoLoan => k_is)
    (case xt_NoLoan => k_is)
    (case xv_NoLoan => k_is)
    (case xg_NoLoan => k_is)
    (case xh_NoLoan => k_is)
    (case aC_NoApart => k_is)
    (case ha_NoApart => k_is)
    (case hm_NoApart => k_is)
    (case hd_NoApart => k_is)
    (case kc_NoApart => k_is)
    (case xx_NoApart => k_exc)
    (case xb_NoApart => k_is)
    (case xt_NoApart => k_is)
    (case xv_NoApart => k_is)
    (case xg_NoApart => k_is)
    (case xh_NoApart => k_is)
    (case aC_Hand => k_is)
    (case ha_Hand => k_is)
    (case hm_Hand => k_is)
    (case hd_Hand => k_is)
    (case kc_Hand => k_is)
    (case pg_Hand => k_is)
    (case po_Hand => k_is)
    (case sa_Hand => k_is)
    (case mk_Hand => k_is)
    (case aIHand => k_is)
    (case iIHand => k_is)
    (case lIHand => k_is)
    (case cIHand => k_is)
    (case kIHand => k_is)
    (case aMHand_hears => k_is)
    (case iMHand_hears => k_is)
    (case lMHand_hears => k_is)
    (case cMHand_hears => k_is)
    (case kMHand_hears => k_is)
    (case aMHand_end_of => k_is)
    (case iMHand_end_of => k_is)
    (case lMHand_end_of => k_is)
    (case cMHand_end_of => k_is)
    (case kMHand_end_of => k_is)
    (case aMHand_forgets => k_is)
    (case iMHand_forgets => k_is)
    (case lMHand_forgets => k_is)
    (case cMHand_forgets => k_is)
    (case kMHand_forgets => k_is)
    (case aMHand_surely_out => k_is)
    (case iMHand_surely_out => k_is)
    (case lMHand_surely_out => k_is)
    (case cMHand_surely_out => k_is)
    (case kMHand_surely_out => k_is)
    (case aMHand_surely_over => k_is)
    (case iMHand_surely_over => k_is)
    (case lMHand_surely_over => k_is)
    (case cMHand_surely_over => k_is)
    (case kMHand_surely_over => k_is)
    (case aMHand_left => k_is)
    (case iMHand_left => k_is)
    (case lMHand_left => k_is)
    (case cMHand_left => k_is)
    (case kMHand_left => k_is)
    (case aMHand_tells => k_is)
    (case iMHand_tells => k_is)
    (case lMHand_tells => k_is)
    (case cMHand_tells => k_is)
    (case kMHand_tells => k_is)
    (case aMHand_soonest => k_is)
    (case iMHand_soonest => k_is)
    (case lMHand_soonest => k_is)
    (case cMHand_soonest => k_is)
    (case kMHand_soonest => k_is)
    (case n_Hand_name => k_is)
    (case n_Hand_apart => k_is)
    (case n_Hand_kept => k_is)
    (case u_NoLoan_LentError => first | rfl | k_is)
    (case u_NoLoan_NoLoan => first | rfl | k_is)
    (case u_NoLoan_NoMoment => first | rfl | k_is)
    (case z_all => k_is)
    (case z_isinstance => k_is)
    (case z_str => k_is)
    (case z_len => k_is)
    (case z_int => k_is)
    (case z_bool => k_is)
    (case z_max => k_is)
    (case z_sorted => k_is)
    (case z_range => k_is)
    (case z_min => k_is)
    (case c_MOST_LETTERS => k_is)
    (case c_LETTERS => k_is)
    (case c_MOST_APART => k_is)
